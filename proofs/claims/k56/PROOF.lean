import PyProof.Rows.All
import Wide.All
import OpenK.AllK
import Wide.FinOn
import HandS.ForMost
import KE.SortData
import KE.DataEq
import KE.DataCmp
import KE.KDictKeyed
import HandS.TupAny
import HandS.Deep
import HandS.Style
import HandS.IsInst
import HandS.Codes
import HandS.WordsDict
import HandS.Set
import HandS.SetFor
import HandS.Strs
import KE.KDictSum
import KE.KDictCopyH
import HandS.Flow
import HandS.Conv
import KE.KDictWalk
import KE.KDictPairs
import KE.KRevSl
import PySem.Challenge.RW_meaningsled_k56_whole_individuals_of_no
set_option Elab.async false
set_option linter.all false
set_option autoImplicit false
section
/-! FiA: a small functional reading of the program's language: data, environments, code, and what code computes. Own work. -/
namespace Fi
open PySem

abbrev Txt := List Nat
/-- keys of dicts -/
inductive DKey where
  | i (n : Int) | s (x : Txt) | t (ks : List NestedKey)
  deriving DecidableEq
/-- data -/
inductive D where
  | non | bl (b : Bool) | int (i : Int) | str (x : Txt)
  | tup (xs : List D) | lst (xs : List D)
  | dct (t : Bool) (kvs : List (DKey × D))
  | set (xs : List DKey)
  | scr (ns : List Int)
  | ty (n : String)

/-- an operation's outcome: a value that lasts, or a new container -/
inductive PR where
  | sc (d : D) | fr (d : D)
/-- an expression's outcome: a value that lasts, a new container, or the container of a slot -/
inductive Rs where
  | sh (d : D) | ow (d : D) | pk (i : Nat)
def PR.rs : PR → Rs
  | .sc d => .sh d
  | .fr d => .ow d
def Rs.fz : Rs → Rs
  | .ow d => .sh d
  | r => r
/-- a slot -/
inductive Sl where
  | un | sh (d : D) | ow (d : D) | lk (d : D)
def Sl.nlk : Sl → Bool
  | .lk _ => false
  | _ => true
structure Env where
  sl : List Sl
  ro : List Nat

namespace Env
def get (E : Env) (i : Nat) : Sl := E.sl.getD i .un
def put (E : Env) (i : Nat) (s : Sl) : Env := { E with sl := E.sl.set i s }
def rd (E : Env) (i : Nat) : Option D := match E.get i with
  | .un => none
  | .sh d => some d
  | .ow d => some d
  | .lk d => some d
/-- what an outcome is, to be read at once -/
def vw (E : Env) : Rs → Option D
  | .sh d => some d
  | .ow d => some d
  | .pk i => E.rd i
/-- an outcome made to last -/
def tk (E : Env) : Rs → Option (D × Env)
  | .sh d => some (d, E)
  | .ow d => some (d, E)
  | .pk i => match E.get i with
    | .sh d => some (d, E)
    | .ow d => some (d, E.put i (.sh d))
    | _ => none
def tks (E : Env) : List Rs → Option (List D × Env)
  | [] => some ([], E)
  | r :: rs => match E.tk r with
    | some (d, E1) => (match E1.tks rs with
      | some (ds, E2) => some (d :: ds, E2)
      | none => none)
    | none => none
/-- may slot i be stored to -/
def free (E : Env) (i : Nat) : Bool := !E.ro.contains i && (E.get i).nlk && decide (i < E.sl.length)
end Env

/-! ### operations -/
inductive O2 where
  | add | sub | mul | fdiv | mod | pow | eq | ne | lt | le | gt | ge | is | isn | inn | nin
  deriving DecidableEq
inductive O1 where
  | neg
  deriving DecidableEq
inductive Blt where
  | len | abs | int | str | tuple | list | sorted | any | all | sum | max | min | set | dict | isinst | sortedSet
inductive Mth where
  | join | get | index | count | items | keys | values | split | endswith | startswith
  deriving DecidableEq
inductive Mut where
  | append | extend | pop | insert | update | reverse
  deriving DecidableEq

mutual
def D.py : D → Option PyData
  | .non => some .none
  | .bl b => some (.bool b)
  | .int i => some (.int i)
  | .str x => some (.str ⟨x.toArray⟩)
  | .tup xs => (D.pys xs).map .tuple
  | .lst xs => (D.pys xs).map .list
  | _ => none
def D.pys : List D → Option (List PyData)
  | [] => some []
  | x :: r => match D.py x, D.pys r with
    | some a, some b => some (a :: b)
    | _, _ => none
end
def bigLine : Nat := 16777216
def D.len : D → Option Nat
  | .str x => if x.length ≤ bigLine then some x.length else none
  | .tup xs => some xs.length
  | .lst xs => some xs.length
  | .dct false kvs => some kvs.length
  | .scr ns => some ns.length
  | _ => none
def D.truth : D → Option Bool
  | .non => some false
  | .bl b => some b
  | .int i => some (i != 0)
  | .str x => if x.length ≤ bigLine then some (!x.isEmpty) else none
  | .tup xs => some !xs.isEmpty
  | .lst xs => some !xs.isEmpty
  | .dct false xs => some !xs.isEmpty
  | _ => none
/-- == of data at any depth -/
def D.eqv (a b : D) : Option Bool := match a.py, b.py with
  | some x, some y => if min x.depth y.depth ≤ 64 then some (PyData.eqv x y) else none
  | _, _ => none
/-- places: Python's index -/
def ix (n : Nat) (i : Int) : Option Nat := if 0 ≤ i then (if i < n then some i.toNat else none) else if -(n : Int) ≤ i then some (i + n).toNat else none
def cutAt (n d : Nat) : Option Int → Nat
  | none => d
  | some i => if i < 0 then (i + n).toNat else min i.toNat n
def cut {α : Type} (xs : List α) (lo hi : Option Int) : List α :=
  (xs.drop (cutAt xs.length 0 lo)).take (cutAt xs.length xs.length hi - cutAt xs.length 0 lo)
mutual
/-- data as keys of any depth -/
def D.nk : D → Option NestedKey
  | .non => some .none
  | .int i => some (.num i)
  | .str x => some (.text ⟨x.toArray⟩)
  | .tup xs => (D.nks xs).map .tup
  | _ => none
def D.nks : List D → Option (List NestedKey)
  | [] => some []
  | x :: r => match D.nk x, D.nks r with
    | some a, some b => some (a :: b)
    | _, _ => none
end
mutual
def nkD : NestedKey → D
  | .none => .non
  | .num i => .int i
  | .text x => .str x.cps.toList
  | .tup ks => .tup (nkDs ks)
def nkDs : List NestedKey → List D
  | [] => []
  | k :: ks => nkD k :: nkDs ks
end
def D.key : D → Option DKey
  | .int i => some (.i i)
  | .str x => some (.s x)
  | .tup xs => (D.nks xs).bind fun ks => if NestedKey.depthAll ks ≤ 7 then some (.t ks) else none
  | _ => none
def DKey.d : DKey → D
  | .i n => .int n
  | .s x => .str x
  | .t ks => .tup (nkDs ks)
def DKey.ok : Bool → DKey → Bool
  | false, .i _ => true
  | false, .s _ => true
  | true, .t _ => true
  | _, _ => false
def kget (k : DKey) (kvs : List (DKey × D)) : Option D := kvs.lookup k
def kput (k : DKey) (d : D) (kvs : List (DKey × D)) : List (DKey × D) :=
  if (kvs.any fun kv => decide (kv.1 = k)) = true then kvs.map (fun kv => if kv.1 = k then (kv.1, d) else kv) else kvs ++ [(k, d)]

def numsD : List D → Option (List Int)
  | [] => some []
  | .int i :: r => (numsD r).map (i :: ·)
  | _ => none
def bls : List D → Option (List Bool)
  | [] => some []
  | .bl b :: r => (bls r).map (b :: ·)
  | _ => none
def txts : List D → Option (List Txt)
  | [] => some []
  | .str x :: r => (txts r).map (x :: ·)
  | _ => none

def flatD : D → Bool
  | .non => true | .bl _ => true | .int _ => true | .str _ => true
  | _ => false
/-- == of flat data -/
def eqF : D → D → Bool
  | .non, .non => true
  | .bl a, .bl b => a == b
  | .bl a, .int b => (if a then 1 else 0) == b
  | .int a, .bl b => a == (if b then 1 else 0)
  | .int a, .int b => a == b
  | .str a, .str b => a == b
  | _, _ => false
def addD : D → D → Option PR
  | .int i, .int j => some (.sc (.int (i + j)))
  | .str x, .str y => if x.length + y.length ≤ bigLine then some (.sc (.str (x ++ y))) else none
  | .lst x, .lst y => if x.length + y.length ≤ bigLine then some (.fr (.lst (x ++ y))) else none
  | .tup x, .tup y => if x.length + y.length ≤ bigLine then some (.sc (.tup (x ++ y))) else none
  | _, _ => none
def subD : D → D → Option PR
  | .int i, .int j => some (.sc (.int (i - j)))
  | _, _ => none
def mulD : D → D → Option PR
  | .int i, .int j => if (-(2 ^ 64) < i ∧ i < 2 ^ 64) ∨ (-(2 ^ 64) < j ∧ j < 2 ^ 64) then some (.sc (.int (i * j))) else none
  | _, _ => none
def fdivD : D → D → Option PR
  | .int i, .int j => if j ≠ 0 ∧ j.natAbs < 1073741824 then some (.sc (.int (i.fdiv j))) else none
  | _, _ => none
def modD : D → D → Option PR
  | .int i, .int j => if j ≠ 0 then some (.sc (.int (i.fmod j))) else none
  | _, _ => none
def powD : D → D → Option PR
  | .int i, .int j => if 0 ≤ j ∧ j ≤ 1000000 ∧ i.natAbs < 2 ^ 64 then some (.sc (.int (i ^ j.toNat))) else none
  | _, _ => none
def notNone : PyData → Bool
  | .none => false
  | _ => true
/-- an order's answer for alike data -/
def ordD (f : PyData → PyData → Bool) (a b : D) : Option PR := match a.py, b.py with
  | some x, some y => if PySem.W.alike x y = true ∧ notNone x = true ∧ min x.depth y.depth ≤ 64 then some (.sc (.bl (f x y))) else none
  | _, _ => none
def cmpA (p : Int → Int → Bool) (f : PyData → PyData → Bool) : D → D → Option PR
  | .int i, .int j => some (.sc (.bl (p i j)))
  | a, b => ordD f a b
def D.isNon : D → Bool
  | .non => true
  | _ => false
def isD (neg : Bool) : D → D → Option PR
  | a, .non => some (.sc (.bl (if neg then !a.isNon else a.isNon)))
  | _, _ => none
def inListD (a : D) (ys : List D) : Option Bool :=
  match a.py, D.pys ys with
  | some x, some ps => if x.depth ≤ 64 then some (ps.any fun z => PyData.eqv z x) else none
  | _, _ => none
def inD (a : D) : D → Option Bool
  | .str y => (match a with
    | .str [c] => some (decide (c ∈ y))
    | _ => none)
  | .lst ys => inListD a ys
  | .tup ys => inListD a ys
  | .dct false kvs => (a.key).bind fun k => if k.ok false then some (kget k kvs).isSome else none
  | _ => none
/-- a op b -/
def op2D : O2 → D → D → Option PR
  | .add, a, b => addD a b
  | .sub, a, b => subD a b
  | .mul, a, b => mulD a b
  | .fdiv, a, b => fdivD a b
  | .mod, a, b => modD a b
  | .pow, a, b => powD a b
  | .eq, a, b => (a.eqv b).map fun r => .sc (.bl r)
  | .ne, a, b => (a.eqv b).map fun r => .sc (.bl !r)
  | .lt, a, b => cmpA (fun i j => decide (i < j)) (fun x y => PySem.W.dataLt x y) a b
  | .le, a, b => cmpA (fun i j => decide (i ≤ j)) (fun x y => !PySem.W.dataLt y x) a b
  | .gt, a, b => cmpA (fun i j => decide (j < i)) (fun x y => PySem.W.dataLt y x) a b
  | .ge, a, b => cmpA (fun i j => decide (j ≤ i)) (fun x y => !PySem.W.dataLt x y) a b
  | .is, a, b => isD false a b
  | .isn, a, b => isD true a b
  | .inn, a, b => (inD a b).map fun r => .sc (.bl r)
  | .nin, a, b => (inD a b).map fun r => .sc (.bl !r)
/-- a op= b, by data -/
def iaddD : D → D → Option PR
  | .int i, .int j => some (.sc (.int (i + j)))
  | .str x, .str y => if x.length + y.length ≤ bigLine then some (.sc (.str (x ++ y))) else none
  | _, _ => none
def iaddI : D → D → Option PR
  | .int i, .int j => some (.sc (.int (i + j)))
  | _, _ => none
def iopD : O2 → D → D → Option PR
  | .add, a, b => iaddD a b
  | .sub, a, b => subD a b
  | .mul, a, b => mulD a b
  | _, _, _ => none
def inopD : O2 → D → D → Option PR
  | .add, a, b => iaddI a b
  | .sub, a, b => subD a b
  | _, _, _ => none
def op1D : O1 → D → Option PR
  | .neg, .int i => some (.sc (.int (-i)))
  | _, _ => none
/-- a[b] -/
def ixD : D → D → Option PR
  | .lst xs, .int i => (ix xs.length i).bind fun j => xs[j]?.map .sc
  | .tup xs, .int i => (ix xs.length i).bind fun j => xs[j]?.map .sc
  | .scr xs, .int i => (ix xs.length i).bind fun j => xs[j]?.map fun n => .sc (.int n)
  | .str xs, .int i => if xs.length ≤ bigLine then (ix xs.length i).bind fun j => xs[j]?.map fun c => .sc (.str [c]) else none
  | .dct false kvs, k => (k.key).bind fun k => if k.ok false then (kget k kvs).map .sc else none
  | _, _ => none
def partD : Option D → Option (Option Int)
  | none => some none
  | some (.int i) => some (some i)
  | _ => none
/-- a[lo:hi] -/
def cutD (a : D) (lo hi : Option Int) : Option PR := match a with
  | .lst xs => some (.fr (.lst (cut xs lo hi)))
  | .tup xs => some (.sc (.tup (cut xs lo hi)))
  | .str xs => if xs.length ≤ bigLine then some (.sc (.str (cut xs lo hi))) else none
  | _ => none
/-- a[::-1] -/
def revD : D → Option PR
  | .lst xs => some (.fr (.lst xs.reverse))
  | .tup xs => some (.sc (.tup xs.reverse))
  | _ => none
/-- texts in order -/
def ltT : Txt → Txt → Bool
  | _, [] => false
  | [], _ :: _ => true
  | a :: r, b :: q => if a < b then true else if b < a then false else ltT r q
def insT (x : Txt) : List Txt → List Txt
  | [] => [x]
  | y :: r => if ltT y x then y :: insT x r else if ltT x y then x :: y :: r else y :: r
/-- sorted(set(texts)) -/
def sortSetT (xs : List Txt) : List Txt := xs.foldr insT []
/-- data in order: ints, texts, tuples of the same -/
def ltD : Nat → D → D → Option Bool
  | _, .int i, .int j => some (decide (i < j))
  | _, .str x, .str y => some (ltT x y)
  | n + 1, .tup xs, .tup ys => ltDs n xs ys
  | _, _, _ => none
where ltDs (n : Nat) : List D → List D → Option Bool
  | [], [] => some false
  | [], _ :: _ => some true
  | _ :: _, [] => some false
  | x :: r, y :: q => match x.eqv y with
    | some true => ltDs n r q
    | some false => ltD n x y
    | none => none
def D.tyName : D → Option String
  | .non => some "NoneType"
  | .bl _ => some "bool"
  | .int _ => some "int"
  | .str _ => some "str"
  | .tup _ => some "tuple"
  | .lst _ => some "list"
  | .dct false _ => some "dict"
  | _ => none
/-- is a thing of the type a one of the type b -/
def tySub (a b : String) : Bool := a == b || (a == "bool" && b == "int")
def tyNames : List String := ["bool", "int", "str", "tuple", "list", "dict"]
/-- built-ins, by data -/
def lenB : List D → Option PR
  | [d] => d.len.map fun n => .sc (.int n)
  | _ => none
def absB : List D → Option PR
  | [.int i] => some (.sc (.int (if i < 0 then -i else i)))
  | _ => none
def intB : List D → Option PR
  | [.int i] => some (.sc (.int i))
  | _ => none
def tupleB : List D → Option PR
  | [.lst xs] => some (.sc (.tup xs))
  | [.tup xs] => some (.sc (.tup xs))
  | _ => none
def listB : List D → Option PR
  | [.lst xs] => some (.fr (.lst xs))
  | [.tup xs] => some (.fr (.lst xs))
  | _ => none
def anyB : List D → Option PR
  | [.lst xs] => (bls xs).map fun bs => .sc (.bl (bs.any id))
  | _ => none
def allB : List D → Option PR
  | [.lst xs] => (bls xs).map fun bs => .sc (.bl (bs.all id))
  | _ => none
def isinstB : List D → Option PR
  | [d, .ty b] => if tyNames.contains b then d.tyName.map fun a => .sc (.bl (tySub a b)) else none
  | _ => none
/-- a datum as the model's plain data -/
def encD (d : D) : PyData := d.py.getD .none
def tupHead : PyData → Bool
  | .tuple (_ :: _) => true
  | _ => false
def plainKey : PyData → Bool
  | .none => false
  | .tuple _ => false
  | _ => true
/-- can these be sorted, whatever their order -/
def sortOk (ps : List PyData) : Bool :=
  (ps.all fun a => ps.all fun b => PySem.W.alike a b) && (ps.all tupHead || ps.all plainKey) && ps.all fun p => decide (p.depth ≤ 64)
def leD (a b : D) : Bool := PySem.W.dataLe false encD a b
def sortC (xs : List D) : Option PR := (D.pys xs).bind fun ps => if sortOk ps then some (.fr (.lst (xs.mergeSort leD))) else none
/-- a dict's keys, all of them texts or all of them tuples -/
def sKeys : Bool → List (DKey × D) → Option (List D)
  | _, [] => some []
  | false, (.s x, _) :: r => (sKeys false r).map (.str x :: ·)
  | true, (.t ks, _) :: r => (sKeys true r).map ((DKey.t ks).d :: ·)
  | _, _ => none
def sortB : List D → Option PR
  | [.lst xs] => sortC xs
  | [.tup xs] => sortC xs
  | [.dct b kvs] => (sKeys b kvs).bind sortC
  | _ => none
/-- pairs, told as a dict's entries -/
def dPairs : List D → Option (List (DKey × D))
  | [] => some []
  | .tup [k, v] :: r => match k.key, dPairs r with
    | some k, some ps => some ((k, v) :: ps)
    | _, _ => none
  | _ => none
def dAll (ps : List (DKey × D)) : List (DKey × D) := ps.foldl (fun acc p => kput p.1 p.2 acc) []
def dictC (xs : List D) : Option PR := (dPairs xs).bind fun ps =>
  if ps.all (fun p => p.1.ok false) = true then some (.fr (.dct false (dAll ps)))
  else if ps.all (fun p => p.1.ok true) = true then some (.fr (.dct true (dAll ps))) else none
/-- dict(pairs) -/
def dictB : List D → Option PR
  | [.lst xs] => dictC xs
  | [.tup xs] => dictC xs
  | _ => none
def bltD : Blt → List D → Option PR
  | .len, ds => lenB ds
  | .abs, ds => absB ds
  | .int, ds => intB ds
  | .tuple, ds => tupleB ds
  | .list, ds => listB ds
  | .any, ds => anyB ds
  | .all, ds => allB ds
  | .isinst, ds => isinstB ds
  | .sorted, ds => sortB ds
  | .dict, ds => dictB ds
  | _, _ => none
/-- texts joined -/
def joinT (s : Txt) : List Txt → Txt
  | [] => []
  | [p] => p
  | p :: q :: r => p ++ (s ++ joinT s (q :: r))
/-- methods that change nothing, by data -/
def joinB : D → List D → Option PR
  | .str s, [.lst xs] => (txts xs).bind fun ts => if (ts.map List.length).sum + ts.length * s.length ≤ bigLine then some (.sc (.str (joinT s ts))) else none
  | .str s, [.tup xs] => (txts xs).bind fun ts => if (ts.map List.length).sum + ts.length * s.length ≤ bigLine then some (.sc (.str (joinT s ts))) else none
  | _, _ => none
def getB : D → List D → Option PR
  | .dct false kvs, [k] => (k.key).bind fun k => if k.ok false then some (.sc ((kget k kvs).getD .non)) else none
  | _, _ => none
def mthD : Mth → D → List D → Option PR
  | .join, d, ds => joinB d ds
  | .get, d, ds => getB d ds
  | _, _, _ => none
def mthTy : Mth → D → Bool
  | .join, .str _ => true
  | .get, .dct false _ => true
  | .items, .dct false _ => true
  | .index, .lst _ => true
  | .count, .lst _ => true
  | .endswith, .str _ => true
  | .startswith, .str _ => true
  | .split, .str _ => true
  | _, _ => false
/-- a method that changes its container: what it gives, the container behind it -/
def appendB : D → List D → Option (D × D)
  | .lst xs, [d] => if xs.length < bigLine then some (.non, .lst (xs ++ [d])) else none
  | _, _ => none
def extendB : D → List D → Option (D × D)
  | .lst xs, [.lst ys] => if xs.length + ys.length ≤ bigLine then some (.non, .lst (xs ++ ys)) else none
  | _, _ => none
def popB : D → List D → Option (D × D)
  | .lst xs, [] => xs.getLast?.map fun y => (y, .lst xs.dropLast)
  | _, _ => none
def mutD : Mut → D → List D → Option (D × D)
  | .append, d, ds => appendB d ds
  | .extend, d, ds => extendB d ds
  | .pop, d, ds => popB d ds
  | _, _, _ => none
def mutTy : Mut → D → Bool
  | .append, .lst _ => true
  | .extend, .lst _ => true
  | .pop, .lst _ => true
  | .update, .dct false _ => true
  | _, _ => false
/-- c[k] = d -/
def setD : D → D → D → Option D
  | .lst xs, .int i, d => (ix xs.length i).map fun j => .lst (xs.set j d)
  | .dct b kvs, k, d => (k.key).bind fun k => if k.ok b && decide (kvs.length < bigLine) then some (.dct b (kput k d kvs)) else if k.ok true && kvs.isEmpty then some (.dct true [(k, d)]) else none
  | _, _, _ => none

/-! ### code -/
inductive Tg where
  | nm (i : Nat) | tp (is : List Nat)
mutual
inductive CE where
  | bad | var (i : Nat) | con (d : D) | glo (x : Str)
  | tup (es : CEs) | lst (es : CEs) | dct (t : Bool) (es : CEs) | dsp (ks : List DKey) (es : CEs)
  | op2 (o : O2) (a b : CE) | op1 (o : O1) (a : CE)
  | not (a : CE) | and (a b : CE) | or (a b : CE) | ifx (c a b : CE)
  | idx (a b : CE) | cut (a : CE) (lo hi : CO) | rev (a : CE)
  | call (f : Str) (es : CEs) | blt (f : Blt) (es : CEs)
  | mth (m : Mth) (o : CE) (es : CEs) | mut (m : Mut) (i : Nat) (es : CEs)
  | sset (a : CE) | lrng (it : IT) | chn (o p : O2) (a b c : CE)
  | cmpV (e : CE) (t : Tg) (i : Nat) (cs : CEs) (own : List Nat)
  | cmp (e : CE) (g : Gen) (own : List Nat) | cmp2 (e : CE) (g h : Gen) (own : List Nat)
inductive CEs where
  | nil | cons (e : CE) (r : CEs)
inductive CO where
  | no | so (e : CE)
inductive IT where
  | seq (e : CE) | rng1 (a : CE) | rng2 (a b : CE) | rng3 (a b c : CE) | enu (a : CE) | zip (a b : CE) | items (a : CE)
inductive Gen where
  | mk (t : Tg) (it : IT) (cs : CEs)
end
mutual
inductive CS where
  | bad
  | asg (t : Tg) (e : CE) | par (is : List Nat) (es : CEs)
  | aug (i : Nat) (o : O2) (e : CE) | augIx (i : Nat) (k : CE) (o : O2) (e : CE) | setIx (i : Nat) (k e : CE)
  | ex (e : CE) | ret (e : CE) | retN | ite (c : CE) (a b : CB) | for (t : Tg) (it : IT) (b : CB) | whl (c : CE) (b : CB)
  | brk | cnt | pas
inductive CB where
  | nil | cons (s : CS) (r : CB)
end

/-! ### what code computes -/
/-- an argument: a value that lasts, or a slot's container -/
inductive Ar where
  | sh (d : D) | ow (i : Nat) (d : D)
/-- the defs: which parameters are containers of the caller's; what a call gives: the value (new or lasting), what the containers became -/
structure Ctx where
  call : Str → List (Bool × D) → Option (Rs × List Sl)
  io : Str → List Bool
  glo : Str → Option D

inductive Out where
  | nx (E : Env) | rt (r : Rs) (E : Env) | bk (E : Env) | ct (E : Env)

/-- what is walked: its data, the slot whose container it is and whether it is locked now -/
def lock (E : Env) : Rs → Option (D × Option (Nat × Bool) × Env)
  | .sh d => some (d, none, E)
  | .ow d => some (d, none, E)
  | .pk i => match E.get i with
    | .ow d => some (d, some (i, true), E.put i (.lk d))
    | .lk d => some (d, some (i, false), E)
    | .sh d => some (d, none, E)
    | .un => none
def unlock (E : Env) : Option (Nat × Bool) → Env
  | some (i, true) => (match E.get i with
    | .lk d => E.put i (.ow d)
    | _ => E)
  | _ => E
/-- a dict's slot is put away while its keys are walked -/
def hide (E : Env) (i : Nat) : Env := { sl := E.sl.set i .un, ro := i :: E.ro }
def unhide (E : Env) (i : Nat) (d : D) (ro : List Nat) : Env := { sl := E.sl.set i (.ow d), ro := ro }
def dictAt (E : Env) (i : Nat) : Option (List (DKey × D)) := match E.get i with
  | .ow (.dct false kvs) => some kvs
  | _ => none
/-- what a variable is, to be walked -/
def lockVar (E : Env) (i : Nat) : Option (D × Option (Nat × Bool) × Env) := match E.get i with
  | .un => none
  | .sh d => lock E (.sh d)
  | _ => lock E (.pk i)
/-- a set of texts, sorted -/
def putT (L : List Txt) (k : Txt) : List Txt := if k ∈ L then L else L ++ [k]
def allT (xs : List Txt) : List Txt := xs.foldl putT []
def leT (x y : Txt) : Bool := decide (x ≤ y)
def setT (xs : List Txt) : List Txt := (allT xs).mergeSort leT
/-- the locked slot is none of these -/
def lkFree (own : List Nat) : Option (Nat × Bool) → Bool
  | none => true
  | some (i, _) => !own.contains i
def seqD : D → Option (List D)
  | .lst xs => some xs
  | .tup xs => some xs
  | .str xs => if xs.length ≤ bigLine then some (xs.map fun c => .str [c]) else none
  | _ => none
def rngD (a b c : Int) : Option (List D) :=
  if -(2 ^ 62) ≤ a ∧ a < 2 ^ 62 ∧ -(2 ^ 62) ≤ b ∧ b < 2 ^ 62 then
    (if c = 1 then some ((List.range (b - a).toNat).map fun (k : Nat) => .int (a + k))
     else if c = -1 then some ((List.range (a - b).toNat).map fun (k : Nat) => .int (a - k)) else none)
  else none
def puts (E : Env) : List Nat → List D → Option Env
  | [], [] => some E
  | i :: is, d :: ds => if E.free i then puts (E.put i (.sh d)) is ds else none
  | _, _ => none
def bindT : Tg → D → Env → Option Env
  | .nm i, d, E => if E.free i then some (E.put i (.sh d)) else none
  | .tp is, .tup ds, E => puts E is ds
  | _, _, _ => none
def Tg.slots : Tg → List Nat
  | .nm i => [i]
  | .tp is => is
def wipeE (E : Env) : List Nat → Env
  | [] => E
  | i :: is => (wipeE E is).put i .un
/-- the comprehension's own slots as they were -/
def back (E0 E : Env) : List Nat → Env
  | [] => E
  | i :: is => (back E0 E is).put i (E0.get i)
/-- arguments for a call, by which parameters are containers -/
def argsOf (E : Env) : List Bool → List Rs → Option (List Ar × Env)
  | true :: bs, .pk i :: rs => (match E.get i with
    | .ow d => (match argsOf E bs rs with
      | some (as, E2) => some (.ow i d :: as, E2)
      | none => none)
    | _ => none)
  | false :: bs, r :: rs => (match E.tk r with
    | some (d, E1) => (match argsOf E1 bs rs with
      | some (as, E2) => some (.sh d :: as, E2)
      | none => none)
    | none => none)
  | [], [] => some ([], E)
  | _, _ => none
def lent : List Ar → List Nat
  | [] => []
  | .sh _ :: r => lent r
  | .ow i _ :: r => i :: lent r
/-- the containers lent are there, each once -/
def lentOk (E : Env) (as : List Ar) : Bool := (lent as).all (fun i => match E.get i with | .ow _ => true | _ => false) && decide (lent as).Nodup
def Ar.pass : Ar → Bool × D
  | .sh d => (false, d)
  | .ow _ d => (true, d)
/-- the containers behind the call -/
def behind (E : Env) : List Ar → List Sl → Env
  | .ow i _ :: as, s :: ss => (behind E as ss).put i s
  | .sh _ :: as, _ :: ss => behind E as ss
  | _, _ => E

def forL (f : D → Env → Option Out) : List D → Env → Option Out
  | [], E => some (.nx E)
  | d :: r, E => match f d E with
    | some (.nx E1) => forL f r E1
    | some (.ct E1) => forL f r E1
    | some (.bk E1) => some (.nx E1)
    | some (.rt v E1) => some (.rt v E1)
    | none => none
def cmpL (f : D → Env → Option (Option D × Env)) : List D → List D → Env → Option (List D × Env)
  | [], acc, E => some (acc, E)
  | d :: r, acc, E => match f d E with
    | some (some e, E1) => if acc.length < bigLine then cmpL f r (acc ++ [e]) E1 else none
    | some (none, E1) => cmpL f r acc E1
    | none => none
/-- an inner walk that goes on with the list made so far -/
def cmpLL (f : D → List D → Env → Option (List D × Env)) : List D → List D → Env → Option (List D × Env)
  | [], acc, E => some (acc, E)
  | d :: r, acc, E => match f d acc E with
    | some (acc1, E1) => cmpLL f r acc1 E1
    | none => none
def whlN (t : Env → Option (Bool × Env)) (f : Env → Option Out) : Nat → Env → Option Out
  | 0, _ => none
  | n + 1, E => match t E with
    | some (true, E1) => (match f E1 with
      | some (.nx E2) => whlN t f n E2
      | some (.ct E2) => whlN t f n E2
      | some (.bk E2) => some (.nx E2)
      | some (.rt v E2) => some (.rt v E2)
      | none => none)
    | some (false, E1) => some (.nx E1)
    | none => none
open Classical in
noncomputable def whl (t : Env → Option (Bool × Env)) (f : Env → Option Out) (E : Env) : Option Out :=
  if h : ∃ o n, whlN t f n E = some o then some h.choose else none

def mapOut (g : Env → Env) : Out → Out
  | .nx E => .nx (g E)
  | .rt v E => .rt v (g E)
  | .bk E => .bk (g E)
  | .ct E => .ct (g E)

/-- a turn of a comprehension -/
def turnF (t : Tg) (ct : Env → Option (Bool × Env)) (ce : Env → Option (Rs × Env)) (own : List Nat) (d : D) (E : Env) : Option (Option D × Env) :=
  match bindT t d E with
  | some E2 => (match ct E2 with
    | some (true, E3) => (match ce E3 with
      | some (r, E4) => (match E4.tk r with
        | some (d', E5) => some (some d', wipeE E5 own)
        | none => none)
      | none => none)
    | some (false, E3) => some (none, wipeE E3 own)
    | none => none)
  | none => none
/-- a turn of the outer walk of two -/
def turnO (t : Tg) (ct : Env → Option (Bool × Env)) (ci : Env → Option (List D × Option (Nat × Bool) × Env)) (f : D → Env → Option (Option D × Env)) (own own2 : List Nat) (d : D) (acc : List D) (E : Env) : Option (List D × Env) :=
  match bindT t d E with
  | some E2 => (match ct E2 with
    | some (true, E3) => (match ci E3 with
      | some (ds2, l2, E4) => if lkFree own2 l2 then (match cmpL f ds2 acc (wipeE E4 own2) with
        | some (acc', E9) => some (acc', wipeE (unlock E9 l2) own)
        | none => none) else none
      | none => none)
    | some (false, E3) => some (acc, wipeE E3 own)
    | none => none)
  | none => none
/-- outcomes to be stored: what is new stays for itself, all else lasts -/
def Env.tkf (E : Env) : List Rs → Option (List PR × Env)
  | [] => some ([], E)
  | .ow d :: rs => (match E.tkf rs with
    | some (ps, E1) => some (.fr d :: ps, E1)
    | none => none)
  | r :: rs => match E.tk r with
    | some (d, E1) => (match E1.tkf rs with
      | some (ps, E2) => some (.sc d :: ps, E2)
      | none => none)
    | none => none
def putp (E : Env) : List Nat → List PR → Option Env
  | [], [] => some E
  | i :: is, .sc d :: ps => if E.free i then putp (E.put i (.sh d)) is ps else none
  | i :: is, .fr d :: ps => if E.free i then putp (E.put i (.ow d)) is ps else none
  | _, _ => none
def ownOk (E : Env) (own : List Nat) : Bool := own.all fun i => !E.ro.contains i

section
variable (C : Ctx)
mutual
noncomputable def evE : CE → Env → Option (Rs × Env)
  | .bad, _ => none
  | .var i, E => (match E.get i with
    | .un => none
    | .sh d => some (.sh d, E)
    | _ => some (.pk i, E))
  | .con d, E => some (.sh d, E)
  | .glo x, E => (C.glo x).map fun d => (.sh d, E)
  | .tup es, E => (match evEs es E with
    | some (rs, E1) => (match E1.tks rs with
      | some (ds, E2) => if ds.length ≤ bigLine then some (.sh (.tup ds), E2) else none
      | none => none)
    | none => none)
  | .lst es, E => (match evEs es E with
    | some (rs, E1) => (match E1.tks rs with
      | some (ds, E2) => if ds.length ≤ bigLine then some (.ow (.lst ds), E2) else none
      | none => none)
    | none => none)
  | .dct t .nil, E => some (.ow (.dct t []), E)
  | .dct _ (.cons _ _), _ => none
  | .dsp ks es, E => (match evEs es E with
    | some (rs, E1) => (match E1.tks rs with
      | some (ds, E2) => if ks.length = ds.length && decide (0 < ks.length) && decide (ks.length ≤ 15) && ks.all (DKey.ok false) then some (.ow (.dct false ((ks.zip ds).foldl (fun acc kd => kput kd.1 kd.2 acc) [])), E2) else none
      | none => none)
    | none => none)
  | .op2 o a b, E => (match evE a E with
    | some (ra, E1) => (match evE b E1 with
      | some (rb, E2) => (match E2.vw ra.fz, E2.vw rb.fz with
        | some da, some db => (op2D o da db).map fun p => (p.rs, E2)
        | _, _ => none)
      | none => none)
    | none => none)
  | .op1 o a, E => (match evE a E with
    | some (ra, E1) => (match E1.vw ra with
      | some da => (op1D o da).map fun p => (p.rs, E1)
      | none => none)
    | none => none)
  | .not a, E => (match evE a E with
    | some (ra, E1) => (match E1.vw ra with
      | some da => da.truth.map fun k => (.sh (.bl !k), E1)
      | none => none)
    | none => none)
  | .and a b, E => (match evE a E with
    | some (ra, E1) => (match (E1.vw ra).bind D.truth with
      | some true => evE b E1
      | some false => some (ra, E1)
      | none => none)
    | none => none)
  | .or a b, E => (match evE a E with
    | some (ra, E1) => (match (E1.vw ra).bind D.truth with
      | some true => some (ra, E1)
      | some false => evE b E1
      | none => none)
    | none => none)
  | .ifx c a b, E => (match evE c E with
    | some (rc, E1) => (match (E1.vw rc).bind D.truth with
      | some true => evE a E1
      | some false => evE b E1
      | none => none)
    | none => none)
  | .idx a b, E => (match evE a E with
    | some (ra, E1) => (match evE b E1 with
      | some (rb, E2) => (match E2.vw ra.fz, E2.vw rb.fz with
        | some da, some db => (ixD da db).map fun p => (p.rs, E2)
        | _, _ => none)
      | none => none)
    | none => none)
  | .cut a lo hi, E => (match evE a E with
    | some (ra, E1) => (match evO lo E1 with
      | some (l, E2) => (match evO hi E2 with
        | some (h, E3) => (match E3.vw ra.fz with
          | some da => (cutD da l h).map fun p => (p.rs, E3)
          | none => none)
        | none => none)
      | none => none)
    | none => none)
  | .rev a, E => (match evE a E with
    | some (ra, E1) => (match E1.vw ra with
      | some da => (revD da).map fun p => (p.rs, E1)
      | none => none)
    | none => none)
  | .call f es, E => (match evEs es E with
    | some (rs, E1) => (match argsOf E1 (C.io f) rs with
      | some (as, E2) => if lentOk E2 as then (match C.call f (as.map Ar.pass) with
        | some (r, ss) => some (r, behind E2 as ss)
        | none => none) else none
      | none => none)
    | none => none)
  | .blt f es, E => (match evEs es E with
    | some (rs, E1) => (match rs.mapM E1.vw with
      | some ds => (bltD f ds).map fun p => (p.rs, E1)
      | none => none)
    | none => none)
  | .mth m o es, E => (match evE o E with
    | some (ro, E1) => (match E1.vw ro.fz with
      | some d0 => if mthTy m d0 then (match evEs es E1 with
        | some (rs, E2) => (match E2.vw ro.fz, rs.mapM E2.vw with
          | some d, some ds => (mthD m d ds).map fun p => (p.rs, E2)
          | _, _ => none)
        | none => none) else none
      | none => none)
    | none => none)
  | .mut m i es, E => (match E.get i with
    | .ow c0 => if mutTy m c0 then (match evEs es E with
      | some (rs, E1) => (match E1.tks rs with
        | some (ds, E2) => (match E2.get i with
          | .ow c => (match mutD m c ds with
            | some (r, c') => some (.sh r, E2.put i (.ow c'))
            | none => none)
          | _ => none)
        | none => none)
      | none => none) else none
    | _ => none)
  | .chn o p a b c, E => (match evE a E with
    | some (ra, E1) => (match evE b E1 with
      | some (rb, E2) => (match E2.vw ra.fz, E2.vw rb.fz with
        | some da, some db => (match op2D o da db with
          | some (.sc (.bl true)) => (match evE c E2 with
            | some (rc, E3) => (match E3.vw rb.fz, E3.vw rc.fz with
              | some db2, some dc => (op2D p db2 dc).map fun q => (q.rs, E3)
              | _, _ => none)
            | none => none)
          | some (.sc (.bl false)) => some (.sh (.bl false), E2)
          | _ => none)
        | _, _ => none)
      | none => none)
    | none => none)
  | .sset a, E => (match evE a E with
    | some (r, E1) => (match E1.vw r with
      | some (.lst xs) => (txts xs).bind fun ts => if ts.length + 1 < 4096 then some (.ow (.lst ((setT ts).map .str)), E1) else none
      | _ => none)
    | none => none)
  | .lrng it, E => (match evI it E with
    | some (ds, none, E1) => if ds.length ≤ bigLine then some (.ow (.lst ds), E1) else none
    | _ => none)
  | .cmpV e t i cs own, E => (match dictAt E i with
    | some kvs => if ownOk (hide E i) own then (match cmpL (turnF t (evT cs) (evE e) own) (kvs.map fun kv => kv.1.d) [] (wipeE (hide E i) own) with
      | some (out, E6) => some (.ow (.lst out), unhide (back (hide E i) E6 own) i (.dct false kvs) E.ro)
      | none => none) else none
    | none => (match lockVar E i with
      | some (d, l, E1) => (match seqD d with
        | some ds => if lkFree own l && ownOk E1 own then (match cmpL (turnF t (evT cs) (evE e) own) ds [] (wipeE E1 own) with
          | some (out, E6) => some (.ow (.lst out), unlock (back E1 E6 own) l)
          | none => none) else none
        | none => none)
      | none => none))
  | .cmp e (.mk t it cs) own, E => (match evI it E with
      | some (ds, l, E1) => if lkFree own l && ownOk E1 own then (match cmpL (turnF t (evT cs) (evE e) own) ds [] (wipeE E1 own) with
        | some (out, E6) => some (.ow (.lst out), unlock (back E1 E6 own) l)
        | none => none) else none
      | none => none)
  | .cmp2 e (.mk t it cs) (.mk t2 it2 cs2) own, E => (match evI it E with
      | some (ds, l, E1) => if lkFree own l && ownOk E1 own then (match cmpLL (turnO t (evT cs) (evI it2) (turnF t2 (evT cs2) (evE e) t2.slots) own t2.slots) ds [] (wipeE E1 own) with
        | some (out, E6) => some (.ow (.lst out), unlock (back E1 E6 own) l)
        | none => none) else none
      | none => none)
noncomputable def evEs : CEs → Env → Option (List Rs × Env)
  | .nil, E => some ([], E)
  | .cons e r, E => (match evE e E with
    | some (x, E1) => (match evEs r E1 with
      | some (xs, E2) => some (x.fz :: xs, E2)
      | none => none)
    | none => none)
noncomputable def evO : CO → Env → Option (Option Int × Env)
  | .no, E => some (none, E)
  | .so e, E => (match evE e E with
    | some (r, E1) => (match E1.vw r with
      | some (.int i) => some (some i, E1)
      | _ => none)
    | none => none)
/-- tests, all of them -/
noncomputable def evT : CEs → Env → Option (Bool × Env)
  | .nil, E => some (true, E)
  | .cons e r, E => (match evE e E with
    | some (x, E1) => (match (E1.vw x).bind D.truth with
      | some true => evT r E1
      | some false => some (false, E1)
      | none => none)
    | none => none)
/-- what is walked: the items, the locked slot -/
noncomputable def evI : IT → Env → Option (List D × Option (Nat × Bool) × Env)
  | .seq e, E => (match evE e E with
    | some (r, E1) => (match lock E1 r with
      | some (d, l, E2) => (seqD d).map fun ds => (ds, l, E2)
      | none => none)
    | none => none)
  | .rng1 a, E => (match evE a E with
    | some (r, E1) => (match E1.vw r with
      | some (.int n) => (rngD 0 n 1).map fun ds => (ds, none, E1)
      | _ => none)
    | none => none)
  | .rng2 a b, E => (match evE a E with
    | some (r, E1) => (match evE b E1 with
      | some (r2, E2) => (match E2.vw r, E2.vw r2 with
        | some (.int m), some (.int n) => (rngD m n 1).map fun ds => (ds, none, E2)
        | _, _ => none)
      | none => none)
    | none => none)
  | _, _ => none
end

/-- expressions in a row, new containers kept for themselves -/
noncomputable def evFs : CEs → Env → Option (List Rs × Env)
  | .nil, E => some ([], E)
  | .cons e r, E => (match evE C e E with
    | some (x, E1) => (match evFs r E1 with
      | some (xs, E2) => some (x :: xs, E2)
      | none => none)
    | none => none)
mutual
noncomputable def evS : CS → Env → Option Out
  | .bad, _ => none
  | .asg t e, E => (match evE C e E with
    | some (r, E1) => (match t with
      | .nm i => (match r with
        | .ow d => if E1.free i then some (.nx (E1.put i (.ow d))) else none
        | r => (match E1.tk r with
          | some (d, E2) => if E2.free i then some (.nx (E2.put i (.sh d))) else none
          | none => none))
      | .tp is => (match E1.vw r with
        | some (.tup ds) => (puts E1 is ds).map .nx
        | _ => none))
    | none => none)
  | .par is es, E => (match evFs C es E with
    | some (rs, E1) => (match E1.tkf rs with
      | some (ps, E2) => (putp E2 is ps).map .nx
      | none => none)
    | none => none)
  | .aug i o e, E => (match E.get i with
    | .sh d => (match evE C e E with
      | some (r, E1) => (match E1.vw r with
        | some d2 => (match iopD o d d2 with
          | some (.sc d3) => if E1.free i then some (.nx (E1.put i (.sh d3))) else none
          | _ => none)
        | none => none)
      | none => none)
    | _ => none)
  | .augIx i k o e, E => (match E.get i with
    | .ow _ => (match evE C k E with
      | some (rk, E1) => (match E1.get i, (E1.vw rk).bind D.key with
        | .ow (.dct false kvs), some key => if key.ok false then (match kget key kvs with
          | some old => (match evE C e E1 with
            | some (r, E2) => (match E2.get i, E2.vw r with
              | .ow (.dct false kvs2), some d2 => (match inopD o old d2 with
                | some (.sc d3) => if kvs2.length < bigLine then some (.nx (E2.put i (.ow (.dct false (kput key d3 kvs2))))) else none
                | _ => none)
              | _, _ => none)
            | none => none)
          | none => none) else none
        | _, _ => none)
      | none => none)
    | _ => none)
  | .setIx i k e, E => (match evE C e E with
    | some (r, E1) => (match E1.tk r with
      | some (d, E2) => (match E2.get i with
        | .ow _ => (match evE C k E2 with
          | some (rk, E3) => (match E3.get i, E3.vw rk with
            | .ow c, some dk => (setD c dk d).map fun c2 => .nx (E3.put i (.ow c2))
            | _, _ => none)
          | none => none)
        | _ => none)
      | none => none)
    | none => none)
  | .ex e, E => (match evE C e E with
    | some (_, E1) => some (.nx E1)
    | none => none)
  | .ret e, E => (match evE C e E with
    | some (r, E1) => some (.rt r E1)
    | none => none)
  | .retN, E => some (.rt (.sh .non) E)
  | .ite c a b, E => (match evE C c E with
    | some (r, E1) => (match (E1.vw r).bind D.truth with
      | some true => evB a E1
      | some false => evB b E1
      | none => none)
    | none => none)
  | .for t it b, E => (match evI C it E with
    | some (ds, l, E1) => (match forL (fun d E' => match bindT t d E' with
          | some E2 => evB b E2
          | none => none) ds E1 with
      | some o => some (mapOut (fun E2 => unlock E2 l) o)
      | none => none)
    | none => none)
  | .whl c b, E => whl (fun E' => match evE C c E' with
      | some (r, E1) => (match (E1.vw r).bind D.truth with
        | some k => some (k, E1)
        | none => none)
      | none => none) (fun E' => evB b E') E
  | .brk, E => some (.bk E)
  | .cnt, E => some (.ct E)
  | .pas, E => some (.nx E)
noncomputable def evB : CB → Env → Option Out
  | .nil, E => some (.nx E)
  | .cons s r, E => (match evS s E with
    | some (.nx E1) => evB r E1
    | some o => some o
    | none => none)
end
end

end Fi
end

section
/-! FiB: how data lie in the abstract heap; environments; what a step leaves. Own work. -/
namespace Fi
open PySem L2

def strOf (x : Txt) : Str := ⟨x.toArray⟩
theorem strOf_length (x : Txt) : (strOf x).length = x.length := by simp [strOf, Str.length]
theorem strOf_cps (x : Txt) : (strOf x).cps.toList = x := by simp [strOf]
theorem strOf_inj {x y : Txt} : strOf x = strOf y ↔ x = y := by
  constructor
  · intro h; have := congrArg (fun s => s.cps.toList) h; simpa [strOf] using this
  · rintro rfl; rfl
theorem big_eq : bigLine = sizeLine := by rw [sizeLine_eq]; rfl

def DKey.toKey : DKey → Option Key
  | .i n => some (.inl n)
  | .s x => some (.inr (strOf x))
  | .t _ => none
/-- what the world says of keys' hashes -/
class HW where
  hs : NestedKey → Int
/-- a dict with keys that are tuples, by its own object alone -/
def RawN (hs : NestedKey → Int) (a : Addr) (xs : List (NestedKey × Addr × Value)) (h : Heap) : Prop :=
  xs.length ≤ sizeLine ∧ (a == sysModules) = false ∧ (xs.map (·.1)).Nodup ∧ (∀ x ∈ xs, x.1.depth ≤ 8) ∧ ∃ o es ep, h.get? a = some o ∧ o.ExactDict ∧ o.data = .dict es ep ∧ es.toList = xs.map (fun x => ⟨hs x.1, .ref x.2.1, x.2.2⟩)
def NDict (hs : NestedKey → Int) (a : Addr) (xs : List (NestedKey × Addr × Value)) : HO := .ext (RawN hs a xs)

/-- a tuple at a, its object known: without a dict of its own -/
def PlT (K : PySem.W.Frag) (S : Hp) (a : Addr) (vs : List V) : Prop := (∃ o, S a = some (.frz o (.tup vs)) ∧ o.dict = none) ∨
  ∃ (o : Obj) (its : Array Value) (n : Nat), K.lookup a = some o ∧ o.cls = .type "tuple" ∧ o.dict = none ∧ o.data = .seq its n ∧ its.size ≤ sizeLine ∧ Vals vs its.toList
theorem PlT.sq {K : PySem.W.Frag} {S : Hp} {a : Addr} {vs : List V} (h : PlT K S a vs) : SqT K S a vs := by
  rcases h with ⟨o, h, _⟩ | ⟨o, its, n, h1, h2, _, h4, h5, h6⟩
  · exact .inl (.inr ⟨o, h⟩)
  · exact .inr ⟨o, its, n, h1, h2, h4, h5, h6⟩
theorem PlT.mono {K : PySem.W.Frag} {S S' : Hp} {a : Addr} {vs : List V} (e : Same S S') (h : PlT K S a vs) : PlT K S' a vs := by
  rcases h with ⟨o, h, d⟩ | h
  · exact .inl ⟨o, e _ _ h, d⟩
  · exact .inr h
section
variable [J : HW] (K : PySem.W.Frag) (S : Hp)
mutual
/-- the value v is the data d; all that it leans on lasts in S -/
inductive Rep : D → V → Prop
  | non : Rep .non .non
  | bl (b : Bool) : Rep (.bl b) (.bl b)
  | int (i : Int) : Rep (.int i) (.int i)
  | str (x : Txt) : Rep (.str x) (.str (strOf x))
  | ty (n : String) : Rep (.ty n) (.ty n)
  | tup {a : Addr} {vs : List V} {ds : List D} : PlT K S a vs → RepL ds vs → Rep (.tup ds) (.ref a)
  | lst {a : Addr} {vs : List V} {ds : List D} : S a = some (.lst vs) → RepL ds vs → Rep (.lst ds) (.ref a)
  | dK {a : Addr} {es : List (Key × V)} {kvs : List (DKey × D)} : S a = some (.dK es) → RepK kvs es → Rep (.dct false kvs) (.ref a)
  | dT {a b : Addr} {es : List (NestedKey × Addr × Value)} {kvs : List (DKey × D)} : S a = some (NDict J.hs b es) → RepT kvs es → Rep (.dct true kvs) (.ref a)
  | scr {a : Addr} {ns : List Int} : SqL K S a (ns.map V.int) → Rep (.scr ns) (.ref a)
inductive RepL : List D → List V → Prop
  | nil : RepL [] []
  | cons {d : D} {v : V} {ds : List D} {vs : List V} : Rep d v → RepL ds vs → RepL (d :: ds) (v :: vs)
inductive RepK : List (DKey × D) → List (Key × V) → Prop
  | nil : RepK [] []
  | cons {k : DKey} {j : Key} {d : D} {v : V} {ds : List (DKey × D)} {vs : List (Key × V)} : k.toKey = some j → Rep d v → RepK ds vs → RepK ((k, d) :: ds) ((j, v) :: vs)
inductive RepT : List (DKey × D) → List (NestedKey × Addr × Value) → Prop
  | nil : RepT [] []
  | cons {ks : List NestedKey} {c : Addr} {d : D} {v : V} {u : Value} {ds : List (DKey × D)} {vs : List (NestedKey × Addr × Value)} : Rep (DKey.t ks).d (.ref c) → RelV v u → Rep d v → RepT ds vs → RepT ((.t ks, d) :: ds) ((.tup ks, c, u) :: vs)
end
/-- what a container is, by what stands at its place -/
inductive OwnAt : Option HO → D → Prop
  | lst {vs : List V} {ds : List D} : RepL K S ds vs → OwnAt (some (.lst vs)) (.lst ds)
  | dK {es : List (Key × V)} {kvs : List (DKey × D)} : RepK K S kvs es → OwnAt (some (.dK es)) (.dct false kvs)
  | dT {a : Addr} {es : List (NestedKey × Addr × Value)} {kvs : List (DKey × D)} : RepT K S kvs es → OwnAt (some (NDict J.hs a es)) (.dct true kvs)
/-- the value v may be read as d in the heap H -/
def Vw (H : Hp) (d : D) (v : V) : Prop := Rep K S d v ∨ ∃ a, v = .ref a ∧ OwnAt K S (H a) d
end

variable [J : HW]
section
variable {K : PySem.W.Frag} {S S' H H' : Hp}
theorem sqT_mono {a : Addr} {xs : List V} (e : Same S S') (h : SqT K S a xs) : SqT K S' a xs := by
  rcases h with (h | ⟨o, h⟩) | h
  · exact .inl (.inl (e _ _ h))
  · exact .inl (.inr ⟨o, e _ _ h⟩)
  · exact .inr h
mutual
theorem Rep.mono (e : Same S S') : ∀ {d : D} {v : V}, Rep K S d v → Rep K S' d v
  | _, _, .non => .non
  | _, _, .bl b => .bl b
  | _, _, .int i => .int i
  | _, _, .str x => .str x
  | _, _, .ty n => .ty n
  | _, _, .tup h r => .tup (h.mono e) (RepL.mono e r)
  | _, _, .lst h r => .lst (e _ _ h) (RepL.mono e r)
  | _, _, .dK h r => .dK (e _ _ h) (RepK.mono e r)
  | _, _, .dT h r => .dT (e _ _ h) (RepT.mono e r)
  | _, _, .scr h => .scr (e.seq h)
theorem RepL.mono (e : Same S S') : ∀ {ds : List D} {vs : List V}, RepL K S ds vs → RepL K S' ds vs
  | _, _, .nil => .nil
  | _, _, .cons h r => .cons (Rep.mono e h) (RepL.mono e r)
theorem RepK.mono (e : Same S S') : ∀ {ds : List (DKey × D)} {vs : List (Key × V)}, RepK K S ds vs → RepK K S' ds vs
  | _, _, .nil => .nil
  | _, _, .cons k h r => .cons k (Rep.mono e h) (RepK.mono e r)
theorem RepT.mono (e : Same S S') : ∀ {ds : List (DKey × D)} {vs : List (NestedKey × Addr × Value)}, RepT K S ds vs → RepT K S' ds vs
  | _, _, .nil => .nil
  | _, _, .cons k h h2 r => .cons (Rep.mono e k) h (Rep.mono e h2) (RepT.mono e r)
end
theorem OwnAt.mono (e : Same S S') {o : Option HO} {d : D} (h : OwnAt K S o d) : OwnAt K S' o d := by
  cases h with
  | lst r => exact .lst (r.mono e)
  | dK r => exact .dK (r.mono e)
  | dT r => exact .dT (r.mono e)
theorem OwnAt.some {o : Option HO} {d : D} (h : OwnAt K S o d) : ∃ x, o = some x := by
  cases h <;> exact ⟨_, rfl⟩
/-- a container that lasts from now on -/
theorem OwnAt.rep {a : Addr} {d : D} (h : OwnAt K S (S a) d) : Rep K S d (.ref a) := by
  generalize e : S a = o at h
  cases h with
  | lst r => exact .lst e r
  | dK r => exact .dK e r
  | dT r => exact .dT e r
theorem RepL.length {ds : List D} {vs : List V} (h : RepL K S ds vs) : ds.length = vs.length := by
  induction ds generalizing vs with
  | nil => cases h; rfl
  | cons d ds ih => cases h with | cons _ r => simp [ih r]
theorem RepL.get {ds : List D} {vs : List V} (h : RepL K S ds vs) : ∀ {i : Nat} {d : D}, ds[i]? = some d → ∃ v, vs[i]? = some v ∧ Rep K S d v := by
  induction ds generalizing vs with
  | nil => intro i d e; simp at e
  | cons x ds ih =>
    cases h with
    | cons h r =>
      intro i d e
      cases i with
      | zero => simp at e; subst e; exact ⟨_, rfl, h⟩
      | succ i => simpa using ih r (by simpa using e)
theorem RepL.append {ds es : List D} {vs us : List V} (h : RepL K S ds vs) (g : RepL K S es us) : RepL K S (ds ++ es) (vs ++ us) := by
  induction ds generalizing vs with
  | nil => cases h; exact g
  | cons d ds ih => cases h with | cons h r => exact .cons h (ih r)
theorem RepL.take {ds : List D} {vs : List V} (n : Nat) (h : RepL K S ds vs) : RepL K S (ds.take n) (vs.take n) := by
  induction ds generalizing vs n with
  | nil => cases h; simp; exact .nil
  | cons d ds ih => cases h with | cons h r => cases n with
    | zero => simp; exact .nil
    | succ n => simp; exact .cons h (ih n r)
theorem RepL.drop {ds : List D} {vs : List V} (n : Nat) (h : RepL K S ds vs) : RepL K S (ds.drop n) (vs.drop n) := by
  induction ds generalizing vs n with
  | nil => cases h; simp; exact .nil
  | cons d ds ih => cases h with | cons h r => cases n with
    | zero => simp; exact .cons h r
    | succ n => simp; exact ih n r
theorem RepL.set {ds : List D} {vs : List V} {d : D} {v : V} (n : Nat) (g : Rep K S d v) (h : RepL K S ds vs) : RepL K S (ds.set n d) (vs.set n v) := by
  induction ds generalizing vs n with
  | nil => cases h; simp; exact .nil
  | cons x ds ih => cases h with | cons h r => cases n with
    | zero => simp; exact .cons g r
    | succ n => simp; exact .cons h (ih n r)
theorem RepL.reverse {ds : List D} {vs : List V} (h : RepL K S ds vs) : RepL K S ds.reverse vs.reverse := by
  induction ds generalizing vs with
  | nil => cases h; exact .nil
  | cons d ds ih => cases h with | cons h r => simp only [List.reverse_cons]; exact (ih r).append (.cons h .nil)
theorem RepL.dropLast {ds : List D} {vs : List V} (h : RepL K S ds vs) : RepL K S ds.dropLast vs.dropLast := by
  rw [List.dropLast_eq_take, List.dropLast_eq_take, ← h.length]; exact h.take _

theorem same_upd {p : Addr} {o : HO} (h : S p = none) : Same S (upd S p o) := fun b x e => by
  rw [upd_ne (ne_of_none e h)]; exact e
theorem same_upd2 {p : Addr} {o : HO} (e : Same S H) : Same (upd S p o) (upd H p o) := fun b x q => by
  by_cases hb : b = p
  · subst hb; rw [upd_same] at q ⊢; exact q
  · rw [upd_ne hb] at q ⊢; exact e _ _ q
theorem same_updL {p : Addr} {o : HO} (e : Same S H) (h : H p = some o) : Same (upd S p o) H := fun b x q => by
  by_cases hb : b = p
  · subst hb; rw [upd_same] at q; rw [h]; exact q
  · rw [upd_ne hb] at q; exact e _ _ q
theorem same_none {p : Addr} (e : Same S H) (h : H p = none) : S p = none := e.free h
end

/-! ### environments -/
def Env.isOw (E : Env) (i : Nat) : Prop := ∃ d, E.get i = .ow d ∨ E.get i = .lk d
/-- the places that the environment holds as containers -/
def Own (σ : St) (E : Env) (a : Addr) : Prop := ∃ i, E.isOw i ∧ σ[i]? = some (some (.ref a))
structure EnvOk (K : PySem.W.Frag) (S H : Hp) (σ : St) (E : Env) : Prop where
  sub : Same S H
  len : σ.length = E.sl.length
  sh : ∀ i d, E.get i = .sh d → ∃ v, σ[i]? = some (some v) ∧ Rep K S d v
  ow : ∀ i d, E.get i = .ow d ∨ E.get i = .lk d → ∃ a, σ[i]? = some (some (.ref a)) ∧ S a = none ∧ OwnAt K S (H a) d
  inj : ∀ i j a, E.isOw i → E.isOw j → σ[i]? = some (some (.ref a)) → σ[j]? = some (some (.ref a)) → i = j
  ro : ∀ i ∈ E.ro, ∃ a, σ[i]? = some (some (.ref a)) ∧ (E.isOw i ∨ S a ≠ none)
/-- what a step leaves -/
structure Post (K : PySem.W.Frag) (S H : Hp) (σ : St) (E : Env) (S' H' : Hp) (σ' : St) (E' : Env) : Prop where
  ok : EnvOk K S' H' σ' E'
  grow : Same S S'
  frame : ∀ a o, ¬ Own σ E a → H a = some o → H' a = some o
  keepS : ∀ a o, ¬ Own σ E a → H a = some o → S a = none → S' a = none
  dom : ∀ a, H' a = none → H a = none
  own : ∀ a, Own σ' E' a → Own σ E a ∨ H a = none
  roE : E'.ro = E.ro
  rof : ∀ i ∈ E.ro, σ'[i]? = σ[i]?
  lkd : ∀ i d, E.get i = .lk d → E'.get i = .lk d ∧ σ'[i]? = σ[i]?
section
variable {K : PySem.W.Frag} {S S' S1 S2 H H' H1 H2 : Hp} {σ σ' σ1 σ2 : St} {E E' E1 E2 : Env}
theorem Post.refl (h : EnvOk K S H σ E) : Post K S H σ E S H σ E :=
  ⟨h, .refl _, fun _ _ _ e => e, fun _ _ _ _ e => e, fun _ e => e, fun _ e => .inl e, rfl, fun _ _ => rfl, fun _ _ e => ⟨e, rfl⟩⟩
theorem Post.trans (p : Post K S H σ E S1 H1 σ1 E1) (q : Post K S1 H1 σ1 E1 S2 H2 σ2 E2) : Post K S H σ E S2 H2 σ2 E2 := by
  have nown : ∀ a o, ¬ Own σ E a → H a = some o → ¬ Own σ1 E1 a := fun a o n e h => by
    rcases p.own a h with z | z
    · exact n z
    · rw [e] at z; cases z
  refine ⟨q.ok, p.grow.trans q.grow, fun a o n e => q.frame a o (nown a o n e) (p.frame a o n e), fun a o n e s => q.keepS a o (nown a o n e) (p.frame a o n e) (p.keepS a o n e s), fun a e => p.dom a (q.dom a e), fun a h => ?_, q.roE.trans p.roE, fun i hi => ?_, fun i d e => ?_⟩
  · rcases q.own a h with z | z
    · exact p.own a z
    · exact .inr (p.dom a z)
  · exact (q.rof i (by rw [p.roE]; exact hi)).trans (p.rof i hi)
  · obtain ⟨h1, h2⟩ := p.lkd i d e
    obtain ⟨h3, h4⟩ := q.lkd i d h1
    exact ⟨h3, h4.trans h2⟩
theorem Post.sub (p : Post K S H σ E S' H' σ' E') : Same S' H' := p.ok.sub

/-- an outcome at the value v; H0 the heap ahead of it all -/
inductive ResOk (K : PySem.W.Frag) (S H H0 : Hp) (σ : St) (E : Env) (v : V) : Rs → Prop
  | sh {d : D} : Rep K S d v → ResOk K S H H0 σ E v (.sh d)
  | ow {d : D} {a : Addr} : v = .ref a → H0 a = none → S a = none → OwnAt K S (H a) d → ¬ Own σ E a → ResOk K S H H0 σ E v (.ow d)
  | pk {i : Nat} : σ[i]? = some (some v) → ResOk K S H H0 σ E v (.pk i)
theorem ResOk.mono {v : V} {r : Rs} {H0 : Hp} (h : ResOk K S H H0 σ E v r) (p : Post K S H σ E S' H' σ E') : ResOk K S' H' H0 σ E' v r := by
  cases h with
  | sh r => exact .sh (r.mono p.grow)
  | pk e => exact .pk e
  | ow e n s o w =>
    obtain ⟨x, ex⟩ := o.some
    have e2 := p.frame _ _ w ex
    refine .ow e n (p.keepS _ _ w ex s) (by rw [e2]; rw [ex] at o; exact o.mono p.grow) fun h => ?_
    rcases p.own _ h with z | z
    · exact w z
    · rw [ex] at z; cases z
theorem ResOk.from {v : V} {r : Rs} {H0 : Hp} (h : ResOk K S H H0 σ E v r) {H3 : Hp} (d : ∀ a, H0 a = none → H3 a = none) : ResOk K S H H3 σ E v r := by
  cases h with
  | sh r => exact .sh r
  | pk e => exact .pk e
  | ow e n s o w => exact .ow e (d _ n) s o w
theorem get_lt {i : Nat} {s : Sl} (h : E.get i = s) (n : s ≠ .un) : i < E.sl.length := by
  unfold Env.get at h
  by_cases hi : i < E.sl.length
  · exact hi
  · rw [List.getD_eq_getElem?_getD, List.getElem?_eq_none (by omega)] at h
    exact absurd h.symm n
theorem vw_ok {v : V} {r : Rs} {H0 : Hp} {d : D} (I : EnvOk K S H σ E) (h : ResOk K S H H0 σ E v r) (e : E.vw r = some d) : Vw K S H d v := by
  cases h with
  | sh r => cases e; exact .inl r
  | ow e1 n s o w => cases e; exact .inr ⟨_, e1, o⟩
  | @pk i es =>
    have e : E.rd i = some d := e
    unfold Env.rd at e
    cases g : E.get i with
    | un => rw [g] at e; cases e
    | sh d' =>
      rw [g] at e; cases e
      obtain ⟨v', e1, r⟩ := I.sh i d g
      rw [es] at e1; cases e1
      exact .inl r
    | ow d' =>
      rw [g] at e; cases e
      obtain ⟨a, e1, _, o⟩ := I.ow i d (.inl g)
      rw [es] at e1; cases e1
      exact .inr ⟨a, rfl, o⟩
    | lk d' =>
      rw [g] at e; cases e
      obtain ⟨a, e1, _, o⟩ := I.ow i d (.inr g)
      rw [es] at e1; cases e1
      exact .inr ⟨a, rfl, o⟩

/-! #### slots -/
theorem get_put_same {i : Nat} {s : Sl} (h : i < E.sl.length) : (E.put i s).get i = s := by
  simp [Env.get, Env.put, List.getD_eq_getElem?_getD, h]
theorem get_put_ne {i j : Nat} {s : Sl} (h : j ≠ i) : (E.put i s).get j = E.get j := by
  simp [Env.get, Env.put, List.getD_eq_getElem?_getD, List.getElem?_set_ne (Ne.symm h)]
theorem get_put {i j : Nat} {s : Sl} : (E.put i s).get j = if j = i ∧ i < E.sl.length then s else E.get j := by
  by_cases h : j = i
  · subst h
    by_cases hi : j < E.sl.length
    · rw [if_pos ⟨rfl, hi⟩, get_put_same hi]
    · rw [if_neg (by simp [hi])]
      simp [Env.get, Env.put, List.getD_eq_getElem?_getD, hi]
  · rw [if_neg (fun z => h z.1), get_put_ne h]
theorem put_len {i : Nat} {s : Sl} : (E.put i s).sl.length = E.sl.length := by simp [Env.put]
theorem put_ro {i : Nat} {s : Sl} : (E.put i s).ro = E.ro := rfl
theorem isOw_put_ne {i j : Nat} {s : Sl} (h : j ≠ i) : (E.put i s).isOw j ↔ E.isOw j := by
  unfold Env.isOw; rw [get_put_ne h]

/-- a slot's container lasts from now on -/
theorem froz {i : Nat} {d : D} {a : Addr} (I : EnvOk K S H σ E) (g : E.get i = .ow d) (es : σ[i]? = some (some (.ref a))) :
    ∃ S1, Post K S H σ E S1 H σ (E.put i (.sh d)) ∧ Rep K S1 d (.ref a) := by
  obtain ⟨a', e1, ns, o⟩ := I.ow i d (.inl g)
  rw [es] at e1; cases e1
  obtain ⟨x, ex⟩ := o.some
  have hi := get_lt g (by simp)
  have gr : Same S (upd S a x) := same_upd ns
  have rep : Rep K (upd S a x) d (.ref a) := OwnAt.rep (by rw [upd_same, ← ex]; exact o.mono gr)
  have owi : E.isOw i := ⟨d, .inl g⟩
  have ownI : Own σ E a := ⟨i, owi, es⟩
  have isow : ∀ j, (E.put i (.sh d)).isOw j → j ≠ i ∧ E.isOw j := fun j h => by
    have hj : j ≠ i := by
      rintro rfl
      obtain ⟨d', h⟩ := h
      rw [get_put_same hi] at h
      rcases h with h | h <;> cases h
    exact ⟨hj, (isOw_put_ne hj).mp h⟩
  refine ⟨upd S a x, ⟨⟨same_updL I.sub ex, by rw [put_len]; exact I.len, fun j d' h => ?_, fun j d' h => ?_, fun j k b hj hk => I.inj j k b (isow j hj).2 (isow k hk).2, fun j hj => ?_⟩, gr, fun _ _ _ e => e, fun b o n e s => ?_, fun _ e => e, fun b h => ?_, rfl, fun _ _ => rfl, fun j d' h => ?_⟩, rep⟩
  · by_cases hj : j = i
    · subst hj
      rw [get_put_same hi] at h; cases h
      exact ⟨_, es, rep⟩
    · rw [get_put_ne hj] at h
      obtain ⟨v, e, r⟩ := I.sh j d' h
      exact ⟨v, e, r.mono gr⟩
  · obtain ⟨hj, hw⟩ := isow j ⟨d', h⟩
    rw [get_put_ne hj] at h
    obtain ⟨b, e, n, o'⟩ := I.ow j d' h
    refine ⟨b, e, ?_, o'.mono gr⟩
    have : b ≠ a := by
      rintro rfl
      exact hj (I.inj j i b hw owi e es)
    rw [upd_ne this]; exact n
  · obtain ⟨b, e, h⟩ := I.ro j hj
    refine ⟨b, e, ?_⟩
    by_cases hji : j = i
    · subst hji
      rw [es] at e; cases e
      right; rw [upd_same]; simp
    · rcases h with h | h
      · exact .inl ((isOw_put_ne hji).mpr h)
      · right
        cases z : S b with
        | none => exact absurd z h
        | some y => rw [gr b y z]; simp
  · have hb : b ≠ a := by rintro rfl; exact n ownI
    rw [upd_ne hb]; exact s
  · obtain ⟨j, hj, e⟩ := h
    exact .inl ⟨j, (isow j hj).2, e⟩
  · have hj : j ≠ i := by rintro rfl; rw [g] at h; cases h
    rw [get_put_ne hj]; exact ⟨h, rfl⟩

theorem tk_ok {v : V} {r : Rs} {H0 : Hp} {d : D} (I : EnvOk K S H σ E) (h : ResOk K S H H0 σ E v r) (nf : ∀ d, r ≠ .ow d) (e : E.tk r = some (d, E1)) :
    ∃ S1, Post K S H σ E S1 H σ E1 ∧ Rep K S1 d v := by
  cases h with
  | sh r => cases e; exact ⟨S, .refl I, r⟩
  | ow => exact absurd rfl (nf _)
  | @pk i es =>
    cases g : E.get i with
    | un => simp only [Env.tk, g] at e; cases e
    | lk d' => simp only [Env.tk, g] at e; cases e
    | sh d' =>
      simp only [Env.tk, g] at e; cases e
      obtain ⟨v', e1, r⟩ := I.sh i d g
      rw [es] at e1; cases e1
      exact ⟨S, .refl I, r⟩
    | ow d' =>
      simp only [Env.tk, g] at e; cases e
      obtain ⟨a, e1, _, o⟩ := I.ow i d (.inl g)
      rw [es] at e1; cases e1
      exact froz I g es

/-- new things beside what there is -/
structure Ext (S H S' H' : Hp) : Prop where
  grow : Same S S'
  sub : Same S' H'
  ext : Same H H'
  keepS : ∀ a o, H a = some o → S a = none → S' a = none
theorem Ext.refl (h : Same S H) : Ext S H S H := ⟨.refl _, h, .refl _, fun _ _ _ e => e⟩
theorem Ext.trans (p : Ext S H S1 H1) (q : Ext S1 H1 S2 H2) : Ext S H S2 H2 :=
  ⟨p.grow.trans q.grow, q.sub, p.ext.trans q.ext, fun a o e n => q.keepS a o (p.ext a o e) (p.keepS a o e n)⟩
theorem own_some (I : EnvOk K S H σ E) {a : Addr} (h : Own σ E a) : ∃ o, H a = some o ∧ S a = none := by
  obtain ⟨i, ⟨d, hd⟩, e⟩ := h
  obtain ⟨b, e', n, o⟩ := I.ow i d hd
  rw [e] at e'; cases e'
  obtain ⟨x, ex⟩ := o.some
  exact ⟨x, ex, n⟩
theorem Ext.post (x : Ext S H S' H') (I : EnvOk K S H σ E) : Post K S H σ E S' H' σ E := by
  refine ⟨⟨x.sub, I.len, fun i d g => ?_, fun i d g => ?_, I.inj, fun i hi => ?_⟩, x.grow, fun a o _ e => x.ext a o e, fun a o _ e s => x.keepS a o e s, fun a e => x.ext.free e, fun a h => .inl h, rfl, fun _ _ => rfl, fun _ _ g => ⟨g, rfl⟩⟩
  · obtain ⟨v, e, r⟩ := I.sh i d g
    exact ⟨v, e, r.mono x.grow⟩
  · obtain ⟨a, e, n, o⟩ := I.ow i d g
    obtain ⟨y, ey⟩ := o.some
    refine ⟨a, e, x.keepS a y ey n, ?_⟩
    rw [x.ext a y ey]; rw [ey] at o; exact o.mono x.grow
  · obtain ⟨a, e, h⟩ := I.ro i hi
    refine ⟨a, e, h.imp id fun h => ?_⟩
    cases z : S a with
    | none => exact absurd z h
    | some y => rw [x.grow a y z]; simp
/-- an operation's outcome at v -/
inductive PRes (K : PySem.W.Frag) (S' H' H : Hp) (v : V) : PR → Prop
  | sc {d : D} : Rep K S' d v → PRes K S' H' H v (.sc d)
  | fr {d : D} {a : Addr} : v = .ref a → H a = none → S' a = none → OwnAt K S' (H' a) d → PRes K S' H' H v (.fr d)
theorem PRes.res {v : V} {p : PR} (h : PRes K S' H' H v p) (I : EnvOk K S H σ E) : ResOk K S' H' H σ E v p.rs := by
  cases h with
  | sc r => exact .sh r
  | fr e n s o =>
    refine .ow e n s o fun w => ?_
    obtain ⟨x, ex, _⟩ := own_some I w
    rw [n] at ex; cases ex
/-- a new container that lasts from now on -/
theorem Post.freeze (p : Post K S H σ E S1 H1 σ1 E1) {a : Addr} {d : D} (n : H a = none) (s : S1 a = none) (o : OwnAt K S1 (H1 a) d) (w : ¬ Own σ1 E1 a) :
    ∃ S2, Post K S H σ E S2 H1 σ1 E1 ∧ Rep K S2 d (.ref a) := by
  obtain ⟨x, ex⟩ := o.some
  have gr : Same S1 (upd S1 a x) := same_upd s
  refine ⟨upd S1 a x, ⟨⟨same_updL p.ok.sub ex, p.ok.len, fun i d g => ?_, fun i d g => ?_, p.ok.inj, fun i hi => ?_⟩, p.grow.trans gr, p.frame, fun b y hb e m => ?_, p.dom, p.own, p.roE, p.rof, p.lkd⟩, OwnAt.rep (by rw [upd_same, ← ex]; exact o.mono gr)⟩
  · obtain ⟨v, e, r⟩ := p.ok.sh i d g
    exact ⟨v, e, r.mono gr⟩
  · obtain ⟨b, e, m, o'⟩ := p.ok.ow i d g
    refine ⟨b, e, ?_, o'.mono gr⟩
    have : b ≠ a := by rintro rfl; exact w ⟨i, ⟨d, g⟩, e⟩
    rw [upd_ne this]; exact m
  · obtain ⟨b, e, h⟩ := p.ok.ro i hi
    refine ⟨b, e, h.imp id fun h => ?_⟩
    cases z : S1 b with
    | none => exact absurd z h
    | some y => rw [gr b y z]; simp
  · have : b ≠ a := by rintro rfl; rw [n] at e; cases e
    rw [upd_ne this]; exact p.keepS b y hb e m
theorem Post.fz (p : Post K S H σ E S1 H1 σ1 E1) {v : V} {r : Rs} (h : ResOk K S1 H1 H σ1 E1 v r) :
    ∃ S2, Post K S H σ E S2 H1 σ1 E1 ∧ ∀ H0, ResOk K S2 H1 H0 σ1 E1 v r.fz := by
  cases h with
  | sh r => exact ⟨S1, p, fun _ => .sh r⟩
  | pk e => exact ⟨S1, p, fun _ => .pk e⟩
  | ow e n s o w =>
    subst e
    obtain ⟨S2, p2, r⟩ := p.freeze n s o w
    exact ⟨S2, p2, fun _ => .sh r⟩
theorem fz_ne (r : Rs) : ∀ d, r.fz ≠ .ow d := by intro d; cases r <;> simp [Rs.fz]
theorem vw_fz {r : Rs} : E.vw r.fz = E.vw r := by cases r <;> rfl
theorem tk_fz {r : Rs} : E.tk r.fz = E.tk r := by cases r <;> rfl

/-! #### stores -/
theorem set_get {i j : Nat} {x : Option V} (hi : i < σ.length) : (σ.set i x)[j]? = if j = i then some x else σ[j]? := by
  by_cases h : j = i
  · subst h; rw [if_pos rfl, List.getElem?_set_self hi]
  · rw [if_neg h, List.getElem?_set_ne (Ne.symm h)]
theorem free_of {i : Nat} (h : E.free i = true) : i ∉ E.ro ∧ (∀ d, E.get i ≠ .lk d) ∧ i < E.sl.length := by
  unfold Env.free at h
  simp only [Bool.and_eq_true, Bool.not_eq_true', decide_eq_true_eq] at h
  obtain ⟨⟨h1, h2⟩, h3⟩ := h
  refine ⟨by simpa using h1, fun d g => ?_, h3⟩
  rw [g] at h2; cases h2
/-- what does not come to a slot's own container -/
theorem own_put {i : Nat} {s : Sl} {v : Option V} (hs : ∀ d, s ≠ .ow d ∧ s ≠ .lk d) (hi : i < E.sl.length) (I : EnvOk K S H σ E) {a : Addr} (h : Own (σ.set i v) (E.put i s) a) : Own σ E a ∧ ∃ j, j ≠ i ∧ E.isOw j ∧ σ[j]? = some (some (.ref a)) := by
  obtain ⟨j, ⟨d, hd⟩, e⟩ := h
  have hj : j ≠ i := by
    rintro rfl
    rw [get_put_same hi] at hd
    rcases hd with hd | hd
    · exact (hs d).1 hd
    · exact (hs d).2 hd
  rw [get_put_ne hj] at hd
  rw [List.getElem?_set_ne (Ne.symm hj)] at e
  exact ⟨⟨j, ⟨d, hd⟩, e⟩, j, hj, ⟨d, hd⟩, e⟩
theorem put_sh {i : Nat} {d : D} {v : V} (I : EnvOk K S H σ E) (hf : E.free i = true) (r : Rep K S d v) : Post K S H σ E S H (σ.set i (some v)) (E.put i (.sh d)) := by
  obtain ⟨f1, f2, f3⟩ := free_of hf
  have hi : i < σ.length := by rw [I.len]; exact f3
  have no : ∀ d', (Sl.sh d) ≠ .ow d' ∧ (Sl.sh d) ≠ .lk d' := fun _ => ⟨fun h => (nomatch h), fun h => (nomatch h)⟩
  have isow : ∀ j, (E.put i (.sh d)).isOw j → j ≠ i ∧ E.isOw j := fun j h => by
    have hj : j ≠ i := by
      rintro rfl
      obtain ⟨d', h⟩ := h
      rw [get_put_same f3] at h
      rcases h with h | h <;> cases h
    exact ⟨hj, (isOw_put_ne hj).mp h⟩
  refine ⟨⟨I.sub, by rw [put_len, List.length_set]; exact I.len, fun j d' g => ?_, fun j d' g => ?_, fun j k a hj hk ej ek => ?_, fun j hj => ?_⟩, .refl _, fun _ _ _ e => e, fun _ _ _ _ e => e, fun _ e => e, fun a h => .inl (own_put no f3 I h).1, rfl, fun j hj => ?_, fun j d' g => ?_⟩
  · by_cases hj : j = i
    · subst hj
      rw [get_put_same f3] at g; cases g
      exact ⟨v, by rw [List.getElem?_set_self hi], r⟩
    · rw [get_put_ne hj] at g
      rw [List.getElem?_set_ne (Ne.symm hj)]
      exact I.sh j d' g
  · obtain ⟨hj, _⟩ := isow j ⟨d', g⟩
    rw [get_put_ne hj] at g
    rw [List.getElem?_set_ne (Ne.symm hj)]
    exact I.ow j d' g
  · obtain ⟨nj, wj⟩ := isow j hj
    obtain ⟨nk, wk⟩ := isow k hk
    rw [List.getElem?_set_ne (Ne.symm nj)] at ej
    rw [List.getElem?_set_ne (Ne.symm nk)] at ek
    exact I.inj j k a wj wk ej ek
  · have hji : j ≠ i := by rintro rfl; exact f1 hj
    obtain ⟨a, e, h⟩ := I.ro j hj
    rw [List.getElem?_set_ne (Ne.symm hji)]
    exact ⟨a, e, h.imp (fun h => (isOw_put_ne hji).mpr h) id⟩
  · have hji : j ≠ i := by rintro rfl; exact f1 hj
    rw [List.getElem?_set_ne (Ne.symm hji)]
  · have hji : j ≠ i := by rintro rfl; exact f2 d' g
    rw [get_put_ne hji, List.getElem?_set_ne (Ne.symm hji)]
    exact ⟨g, rfl⟩
theorem Post.put_ow (p : Post K S H σ E S1 H1 σ1 E1) {i : Nat} {d : D} {a : Addr} (hf : E1.free i = true) (n : H a = none) (s : S1 a = none) (o : OwnAt K S1 (H1 a) d) (w : ¬ Own σ1 E1 a) :
    Post K S H σ E S1 H1 (σ1.set i (some (.ref a))) (E1.put i (.ow d)) := by
  obtain ⟨f1, f2, f3⟩ := free_of hf
  have I := p.ok
  have hi : i < σ1.length := by rw [I.len]; exact f3
  have isow : ∀ j, (E1.put i (.ow d)).isOw j → j ≠ i → E1.isOw j := fun j h hj => (isOw_put_ne hj).mp h
  have own' : ∀ b, Own (σ1.set i (some (.ref a))) (E1.put i (.ow d)) b → b = a ∨ Own σ1 E1 b := fun b h => by
    obtain ⟨j, hj, e⟩ := h
    by_cases hji : j = i
    · subst hji
      rw [List.getElem?_set_self hi] at e; cases e
      exact .inl rfl
    · rw [List.getElem?_set_ne (Ne.symm hji)] at e
      exact .inr ⟨j, isow j hj hji, e⟩
  refine ⟨⟨I.sub, by rw [put_len, List.length_set]; exact I.len, fun j d' g => ?_, fun j d' g => ?_, fun j k b hj hk ej ek => ?_, fun j hj => ?_⟩, p.grow, p.frame, p.keepS, p.dom, fun b h => ?_, p.roE, fun j hj => ?_, fun j d' g => ?_⟩
  · by_cases hj : j = i
    · subst hj
      rw [get_put_same f3] at g; cases g
    · rw [get_put_ne hj] at g
      rw [List.getElem?_set_ne (Ne.symm hj)]
      exact I.sh j d' g
  · by_cases hj : j = i
    · subst hj
      rw [get_put_same f3] at g
      rcases g with g | g <;> cases g
      exact ⟨a, by rw [List.getElem?_set_self hi], s, o⟩
    · rw [get_put_ne hj] at g
      rw [List.getElem?_set_ne (Ne.symm hj)]
      exact I.ow j d' g
  · by_cases hji : j = i
    · by_cases hki : k = i
      · rw [hji, hki]
      · subst hji
        rw [List.getElem?_set_self hi] at ej; cases ej
        rw [List.getElem?_set_ne (Ne.symm hki)] at ek
        exact absurd ⟨k, isow k hk hki, ek⟩ w
    · by_cases hki : k = i
      · subst hki
        rw [List.getElem?_set_self hi] at ek; cases ek
        rw [List.getElem?_set_ne (Ne.symm hji)] at ej
        exact absurd ⟨j, isow j hj hji, ej⟩ w
      · rw [List.getElem?_set_ne (Ne.symm hji)] at ej
        rw [List.getElem?_set_ne (Ne.symm hki)] at ek
        exact I.inj j k b (isow j hj hji) (isow k hk hki) ej ek
  · have hji : j ≠ i := by rintro rfl; exact f1 hj
    obtain ⟨b, e, h⟩ := I.ro j hj
    rw [List.getElem?_set_ne (Ne.symm hji)]
    exact ⟨b, e, h.imp (fun h => (isOw_put_ne hji).mpr h) id⟩
  · rcases own' b h with rfl | h
    · exact .inr n
    · exact p.own b h
  · have hji : j ≠ i := by rintro rfl; exact f1 (by rw [p.roE]; exact hj)
    rw [List.getElem?_set_ne (Ne.symm hji)]
    exact p.rof j hj
  · obtain ⟨g1, g2⟩ := p.lkd j d' g
    have hji : j ≠ i := by rintro rfl; exact f2 d' g1
    rw [get_put_ne hji, List.getElem?_set_ne (Ne.symm hji)]
    exact ⟨g1, g2⟩
/-- a slot's container is changed -/
theorem upd_ow {i : Nat} {c c' : D} {a : Addr} {o : HO} (I : EnvOk K S H σ E) (g : E.get i = .ow c) (es : σ[i]? = some (some (.ref a))) (h : OwnAt K S (some o) c') :
    Post K S H σ E S (upd H a o) σ (E.put i (.ow c')) := by
  have hi := get_lt g (by simp)
  obtain ⟨a', e1, ns, oa⟩ := I.ow i c (.inl g)
  rw [es] at e1; cases e1
  have owi : E.isOw i := ⟨c, .inl g⟩
  have isow : ∀ j, (E.put i (.ow c')).isOw j → E.isOw j := fun j h => by
    by_cases hj : j = i
    · subst hj; exact owi
    · exact (isOw_put_ne hj).mp h
  have nS : ∀ b x, S b = some x → b ≠ a := fun b x e => by rintro rfl; rw [ns] at e; cases e
  refine ⟨⟨fun b x e => by rw [upd_ne (nS b x e)]; exact I.sub b x e, by rw [put_len]; exact I.len, fun j d' g' => ?_, fun j d' g' => ?_, fun j k b hj hk => I.inj j k b (isow j hj) (isow k hk), fun j hj => ?_⟩, .refl _, fun b x n e => ?_, fun _ _ _ _ e => e, fun b e => ?_, fun b ⟨j, hj, e⟩ => .inl ⟨j, isow j hj, e⟩, rfl, fun _ _ => rfl, fun j d' g' => ?_⟩
  · have hj : j ≠ i := by rintro rfl; rw [get_put_same hi] at g'; cases g'
    rw [get_put_ne hj] at g'
    exact I.sh j d' g'
  · by_cases hj : j = i
    · subst hj
      rw [get_put_same hi] at g'
      rcases g' with g' | g' <;> cases g'
      exact ⟨a, es, ns, by rw [upd_same]; exact h⟩
    · rw [get_put_ne hj] at g'
      obtain ⟨b, e, m, o'⟩ := I.ow j d' g'
      have hb : b ≠ a := by rintro rfl; exact hj (I.inj j i b ⟨d', g'⟩ owi e es)
      exact ⟨b, e, m, by rw [upd_ne hb]; exact o'⟩
  · obtain ⟨b, e, h⟩ := I.ro j hj
    refine ⟨b, e, h.imp (fun h => ?_) id⟩
    by_cases hji : j = i
    · subst hji; exact ⟨c', .inl (get_put_same hi)⟩
    · exact (isOw_put_ne hji).mpr h
  · have hb : b ≠ a := by rintro rfl; exact n ⟨i, owi, es⟩
    rw [upd_ne hb]; exact e
  · by_cases hb : b = a
    · subst hb; rw [upd_same] at e; cases e
    · rw [upd_ne hb] at e; exact e
  · have hj : j ≠ i := by rintro rfl; rw [g] at g'; cases g'
    rw [get_put_ne hj]; exact ⟨g', rfl⟩
/-- a slot is locked -/
theorem put_lk {i : Nat} {d : D} (I : EnvOk K S H σ E) (g : E.get i = .ow d) : Post K S H σ E S H σ (E.put i (.lk d)) := by
  have hi := get_lt g (by simp)
  have owi : E.isOw i := ⟨d, .inl g⟩
  have isow : ∀ j, (E.put i (.lk d)).isOw j → E.isOw j := fun j h => by
    by_cases hj : j = i
    · subst hj; exact owi
    · exact (isOw_put_ne hj).mp h
  refine ⟨⟨I.sub, by rw [put_len]; exact I.len, fun j d' g' => ?_, fun j d' g' => ?_, fun j k b hj hk => I.inj j k b (isow j hj) (isow k hk), fun j hj => ?_⟩, .refl _, fun _ _ _ e => e, fun _ _ _ _ e => e, fun _ e => e, fun b ⟨j, hj, e⟩ => .inl ⟨j, isow j hj, e⟩, rfl, fun _ _ => rfl, fun j d' g' => ?_⟩
  · have hj : j ≠ i := by rintro rfl; rw [get_put_same hi] at g'; cases g'
    rw [get_put_ne hj] at g'
    exact I.sh j d' g'
  · by_cases hj : j = i
    · subst hj
      rw [get_put_same hi] at g'
      rcases g' with g' | g' <;> cases g'
      exact I.ow j _ (.inl g)
    · rw [get_put_ne hj] at g'
      exact I.ow j d' g'
  · obtain ⟨b, e, h⟩ := I.ro j hj
    refine ⟨b, e, h.imp (fun h => ?_) id⟩
    by_cases hji : j = i
    · subst hji; exact ⟨d, .inr (get_put_same hi)⟩
    · exact (isOw_put_ne hji).mpr h
  · have hj : j ≠ i := by rintro rfl; rw [g] at g'; cases g'
    rw [get_put_ne hj]; exact ⟨g', rfl⟩
/-- .. and unlocked, if it was not locked at the start -/
theorem Post.unlock (p : Post K S H σ E S1 H1 σ1 E1) {l : Option (Nat × Bool)} (hl : ∀ i, l = Option.some (i, true) → ∀ d, E.get i ≠ .lk d) : Post K S H σ E S1 H1 σ1 (unlock E1 l) := by
  cases l with
  | none => exact p
  | some ib =>
    obtain ⟨i, bb⟩ := ib
    cases bb with
    | false => exact p
    | true =>
      cases g : E1.get i with
      | un => rw [show Fi.unlock E1 (Option.some (i, true)) = E1 by simp only [Fi.unlock, g]]; exact p
      | sh _ => rw [show Fi.unlock E1 (Option.some (i, true)) = E1 by simp only [Fi.unlock, g]]; exact p
      | ow _ => rw [show Fi.unlock E1 (Option.some (i, true)) = E1 by simp only [Fi.unlock, g]]; exact p
      | lk d =>
        rw [show Fi.unlock E1 (Option.some (i, true)) = E1.put i (.ow d) by simp only [Fi.unlock, g]]
        have I := p.ok
        have hi := get_lt g (by simp)
        have owi : E1.isOw i := ⟨d, .inr g⟩
        have isow : ∀ j, (E1.put i (.ow d)).isOw j → E1.isOw j := fun j h => by
          by_cases hj : j = i
          · subst hj; exact owi
          · exact (isOw_put_ne hj).mp h
        refine ⟨⟨I.sub, by show _ = (E1.put i (.ow d)).sl.length; rw [put_len]; exact I.len, fun j d' g' => ?_, fun j d' g' => ?_, fun j k b hj hk => I.inj j k b (isow j hj) (isow k hk), fun j hj => ?_⟩, p.grow, p.frame, p.keepS, p.dom, fun b ⟨j, hj, e⟩ => p.own b ⟨j, isow j hj, e⟩, p.roE, p.rof, fun j d' g' => ?_⟩
        · have hj : j ≠ i := by rintro rfl; rw [get_put_same hi] at g'; cases g'
          rw [get_put_ne hj] at g'
          exact I.sh j d' g'
        · by_cases hj : j = i
          · subst hj
            rw [get_put_same hi] at g'
            rcases g' with g' | g' <;> cases g'
            exact I.ow j _ (.inr g)
          · rw [get_put_ne hj] at g'
            exact I.ow j d' g'
        · obtain ⟨b, e, h⟩ := I.ro j hj
          refine ⟨b, e, h.imp (fun h => ?_) id⟩
          by_cases hji : j = i
          · subst hji; exact ⟨d, .inl (get_put_same hi)⟩
          · exact (isOw_put_ne hji).mpr h
        · obtain ⟨g1, g2⟩ := p.lkd j d' g'
          have hj : j ≠ i := by rintro rfl; exact hl j rfl d' g'
          rw [get_put_ne hj]; exact ⟨g1, g2⟩
end
end Fi
end

section
set_option maxRecDepth 100000
set_option maxHeartbeats 4000000
/-! FiTup: tuples made anew, told with their own object (they have no dict of their own). Own work. -/
namespace Fi
open PySem PySem.Spec PyProof.Rows L2
section
variable {X : Cx} {pins : List (Addr × Obj)} {σ : L2.St} {H : Hp} {s : Shared}
/-- a tuple pushed behind all else -/
theorem laid_frz {vs : List V} {its : List Value} (I0 : Inv X pins σ H s) (rv : Vals vs its) (len : vs.length ≤ sizeLine) :
    Inv X pins σ (upd H s.heap.objs.size (.frz { cls := .type "tuple", data := .seq its.toArray } (.tup vs))) { s with heap := s.heap.push { cls := .type "tuple", data := .seq its.toArray } } :=
  I0.laid (t' := s.toks) (o := .frz { cls := .type "tuple", data := .seq its.toArray } (.tup vs)) (fun b ob q => Heap.get?_push_of_some _ q) (Nat.le_refl _) ⟨Heap.get?_push_size _ rfl, len, its, rv, ⟨_, Heap.get?_push_size _ rfl, rfl, _, rfl⟩⟩
/-- the new place p holds the tuple vs -/
def NewT (H1 : Hp) (vs : List V) (Q : VK) : Prop := ∀ (p : Addr) (o : Obj), H1 p = none → o.dict = none → Q (.ref p) (upd H1 p (.frz o (.tup vs)))
def tTupF (ta : TA) : TE := fun σ H Q => ta σ H fun vs H1 => vs.length ≤ sizeLine ∧ NewT H1 vs Q
theorem pe_tupF {es : List Expr} {ta : TA} {k : Nat} {pos : Pos} (ha : PA X es ta) : PE X (.Tuple es k pos) (tTupF ta) := by
  refine ⟨fun pins s σ H Q I hq => ?_⟩
  refine wpAny_Tuple_spliced (thn (ha.run pos pins s σ H _ I hq) fun its s1 ⟨vs, H1, I1, rv, len, q⟩ => ⟨by have := rv.length; omega, ?_⟩)
  exact ⟨.ref _, _, laid_frz I1 rv len, rfl, q _ _ (I1.hok.fresh (Nat.le_refl _)) rfl⟩
/-- tuple(xs) -/
def rTupF (K : PySem.W.Frag) : List V → Hp → VK → Prop := fun xs H Q => ∃ p ys, xs = [.ref p] ∧ ((SqL K H p ys ∧ NewT H ys Q) ∨ (SqT K H p ys ∧ Q (.ref p) H))
theorem cr_tupF : CallR X (.type "tuple") (rTupF X.K) := by
  intro pins s σ H xs us Q I r ⟨p, ys, ex, h⟩
  subst ex
  obtain ⟨u, rfl, rx⟩ := vals1 r
  cases rx
  rcases h with ⟨hq, q⟩ | ⟨hq, q⟩
  · obtain ⟨its, rv, pl, len⟩ := I.list hq
    have hlen := rv.length
    refine call_tuple_list pl.isList (fun h' keep => ?_) (by rw [List.size_toArray]; omega)
    have I1 : Inv X pins σ H { s with heap := h' } := I.kept (t' := s.toks) keep
    exact ⟨.ref _, _, laid_frz I1 rv len, rfl, q _ _ (I1.hok.fresh (Nat.le_refl _)) rfl⟩
  · obtain ⟨its, _, pl, _⟩ := I.tuple hq
    exact call_tuple_same pl ⟨.ref p, H, I, rfl, q⟩
/-- t + u -/
def rCatF (K : PySem.W.Frag) : R2 := fun x y H Q => ∃ a b xs ys, x = .ref a ∧ y = .ref b ∧ SqT K H a xs ∧ SqT K H b ys ∧ xs.length + ys.length ≤ sizeLine ∧
  (xs = [] → Q (.ref b) H) ∧ (xs ≠ [] → ys = [] → Q (.ref a) H) ∧ (xs ≠ [] → ys ≠ [] → NewT H (xs ++ ys) Q)
theorem op_catF : OpR X (binaryOp .Add) (rCatF X.K) := by
  intro pins s σ H x y v u Q I rx ry ⟨a, b, xs, ys, ex, ey, ha, hb, hz, q0, q1, q2⟩
  subst ex ey
  cases rx
  cases ry
  obtain ⟨it1, r1, p1, _⟩ := I.tuple ha
  obtain ⟨it2, r2, p2, _⟩ := I.tuple hb
  by_cases hx : xs = []
  · subst hx
    cases r1
    exact cat_tup0 p1 p2 ⟨.ref b, H, I, rfl, q0 rfl⟩
  · refine HT.cat_tup p1 p2 (fun z => hx (r1.nil_iff.mp z)) (fun z => ⟨.ref a, H, I, rfl, q1 hx (r2.nil_iff.mp z)⟩) (fun z => ?_) (by have := r1.length; have := r2.length; omega)
    exact ⟨.ref _, _, laid_frz I (r1.append r2) (by rw [List.length_append]; exact hz), rfl, q2 hx (fun w => z (r2.nil_iff.mpr w)) _ _ (I.hok.fresh (Nat.le_refl _)) rfl⟩
/-- t[lo:hi] -/
def rSlF (K : PySem.W.Frag) : V → Option Int → Option Int → Hp → VK → Prop := fun x lo hi H Q => ∃ a xs, x = .ref a ∧ SqT K H a xs ∧
  (HT.sIx xs.length 0 lo = 0 ∧ HT.sIx xs.length xs.length hi = xs.length → Q (.ref a) H) ∧ (¬ (HT.sIx xs.length 0 lo = 0 ∧ HT.sIx xs.length xs.length hi = xs.length) → NewT H (cutV xs lo hi) Q)
theorem sl_tupF : SlR X (rSlF X.K) := by
  intro pins s σ H x v vl vu lo hi sl Q I rx hs pl pu ⟨a, xs, ex, hx, q1, q2⟩
  subst ex
  cases rx
  obtain ⟨its, rv, ht, hz⟩ := I.tuple hx
  have hlen : its.toArray.size = xs.length := by rw [List.size_toArray]; exact rv.length.symm
  refine ⟨"tuple", _, PyProof.Rows.slot_tuple_getitem.lookup, ht.typeIs, ?_⟩
  by_cases hw : HT.sIx xs.length 0 lo = 0 ∧ HT.sIx xs.length xs.length hi = xs.length
  · exact getItem_tuple_whole ht hs pl pu (by rw [hlen]; exact hw) ⟨.ref a, H, I, rfl, q1 hw⟩
  · refine HT.getItem_tuple_cut ht hs pl pu (by rw [hlen]; exact hw) ?_ (by rw [hlen]; exact hz)
    rw [hlen]
    have rc : Vals (cutV xs lo hi) ((its.drop (HT.sIx xs.length 0 lo)).take (HT.sIx xs.length xs.length hi - HT.sIx xs.length 0 lo)) := (rv.drop _).take _
    exact ⟨.ref _, _, laid_frz I rc (Nat.le_trans (cutV_length xs lo hi) hz), rfl, q2 hw _ _ (I.hok.fresh (Nat.le_refl _)) rfl⟩
end
end Fi
end

section
/-! FiC: the operations by data are the operations of the machine. Own work. -/
namespace Fi
open PySem PySem.Spec PyProof.Rows L2
variable [J : HW]
section
variable {K : PySem.W.Frag} {S H : Hp} {v : V}
theorem Vw.non (h : Vw K S H .non v) : v = .non := by
  rcases h with h | ⟨a, _, h⟩
  · cases h; rfl
  · generalize H a = o at h; cases h
theorem Vw.bl {b : Bool} (h : Vw K S H (.bl b) v) : v = .bl b := by
  rcases h with h | ⟨a, _, h⟩
  · cases h; rfl
  · generalize H a = o at h; cases h
theorem Vw.int {i : Int} (h : Vw K S H (.int i) v) : v = .int i := by
  rcases h with h | ⟨a, _, h⟩
  · cases h; rfl
  · generalize H a = o at h; cases h
theorem Vw.str {x : Txt} (h : Vw K S H (.str x) v) : v = .str (strOf x) := by
  rcases h with h | ⟨a, _, h⟩
  · cases h; rfl
  · generalize H a = o at h; cases h
theorem Vw.tup {ds : List D} (e : Same S H) (h : Vw K S H (.tup ds) v) : ∃ a vs, v = .ref a ∧ SqT K H a vs ∧ RepL K S ds vs := by
  rcases h with h | ⟨a, _, h⟩
  · cases h with
    | tup h r => exact ⟨_, _, rfl, sqT_mono e h.sq, r⟩
  · generalize H a = o at h; cases h
theorem Vw.lst {ds : List D} (e : Same S H) (h : Vw K S H (.lst ds) v) : ∃ a vs, v = .ref a ∧ H a = some (.lst vs) ∧ RepL K S ds vs := by
  rcases h with h | ⟨a, rfl, h⟩
  · cases h with
    | lst h r => exact ⟨_, _, rfl, e _ _ h, r⟩
  · generalize q : H a = o at h
    cases h with
    | lst r => exact ⟨a, _, rfl, q, r⟩
theorem Vw.dK {kvs : List (DKey × D)} (e : Same S H) (h : Vw K S H (.dct false kvs) v) : ∃ a es, v = .ref a ∧ H a = some (.dK es) ∧ RepK K S kvs es := by
  rcases h with h | ⟨a, rfl, h⟩
  · cases h with
    | dK h r => exact ⟨_, _, rfl, e _ _ h, r⟩
  · generalize q : H a = o at h
    cases h with
    | dK r => exact ⟨a, _, rfl, q, r⟩
theorem Vw.dT {kvs : List (DKey × D)} (e : Same S H) (h : Vw K S H (.dct true kvs) v) : ∃ a b es, v = .ref a ∧ H a = some (NDict J.hs b es) ∧ RepT K S kvs es := by
  rcases h with h | ⟨a, rfl, h⟩
  · cases h with
    | dT h r => exact ⟨_, _, _, rfl, e _ _ h, r⟩
  · generalize q : H a = o at h
    cases h with
    | dT r => exact ⟨a, _, _, rfl, q, r⟩
theorem Vw.scr {ns : List Int} (e : Same S H) (h : Vw K S H (.scr ns) v) : ∃ a, v = .ref a ∧ SqL K H a (ns.map V.int) := by
  rcases h with h | ⟨a, _, h⟩
  · cases h with
    | scr h => exact ⟨_, rfl, e.seq h⟩
  · generalize H a = o at h; cases h
/-- a new container -/
theorem ext_new {p : Addr} {o : HO} (e : Same S H) (h : H p = none) : Ext S H S (upd H p o) :=
  ⟨.refl _, e.trans (same_upd h), same_upd h, fun _ _ _ n => n⟩
theorem new_fr {p : Addr} {o : HO} {d : D} (e : Same S H) (h : H p = none) (q : OwnAt K S (some o) d) : PRes K S (upd H p o) H (.ref p) (.fr d) :=
  .fr rfl h (same_none e h) (by rw [upd_same]; exact q)
/-- a new tuple, lasting -/
theorem ext_tup {p : Addr} {o : HO} (e : Same S H) (h : H p = none) : Ext S H (upd S p o) (upd H p o) :=
  ⟨same_upd (same_none e h), same_upd2 e, same_upd h, fun a x ex n => by
    have : a ≠ p := by rintro rfl; rw [h] at ex; cases ex
    rw [upd_ne this]; exact n⟩
theorem new_tup {p : Addr} {o : Obj} {vs : List V} {ds : List D} (e : Same S H) (h : H p = none) (ho : o.dict = none) (r : RepL K S ds vs) : Rep K (upd S p (.frz o (.tup vs))) (.tup ds) (.ref p) :=
  .tup (.inl ⟨o, upd_same, ho⟩) (r.mono (same_upd (same_none e h)))

mutual
theorem Rep.dp (e : Same S H) : ∀ {d : D} {v : V} {p : PyData}, Rep K S d v → d.py = some p → Dp K H v p
  | .non, _, _, .non, q => by cases q; exact .non
  | .bl b, _, _, .bl _, q => by cases q; exact .bl b
  | .int i, _, _, .int _, q => by cases q; exact .int i
  | .str x, _, _, .str _, q => by cases q; exact .str _
  | .tup xs, _, p, .tup h r, q => by
    unfold D.py at q
    cases z : D.pys xs with
    | none => rw [z] at q; cases q
    | some ps =>
      rw [z] at q; cases q
      exact .tup (sqT_mono e h.sq) (RepL.dp e r z)
  | .lst xs, _, p, .lst h r, q => by
    unfold D.py at q
    cases z : D.pys xs with
    | none => rw [z] at q; cases q
    | some ps =>
      rw [z] at q; cases q
      exact .lst (.of (e _ _ h)) (RepL.dp e r z)
theorem RepL.dp (e : Same S H) : ∀ {ds : List D} {vs : List V} {ps : List PyData}, RepL K S ds vs → D.pys ds = some ps → DpAll K H vs ps
  | [], _, _, .nil, q => by cases q; exact .nil
  | d :: ds, _, ps, .cons h r, q => by
    unfold D.pys at q
    cases z : d.py with
    | none => rw [z] at q; cases q
    | some p =>
      cases y : D.pys ds with
      | none => rw [z, y] at q; cases q
      | some ps' =>
        rw [z, y] at q; cases q
        exact .cons (Rep.dp e h z) (RepL.dp e r y)
end
theorem Vw.dp {d : D} {p : PyData} (e : Same S H) (h : Vw K S H d v) (q : d.py = some p) : Dp K H v p := by
  rcases h with h | ⟨a, rfl, h⟩
  · exact h.dp e q
  · generalize z : H a = o at h
    cases h with
    | @lst vs ds r =>
      unfold D.py at q
      cases y : D.pys ds with
      | none => rw [y] at q; cases q
      | some ps => rw [y] at q; cases q; exact .lst (.of z) (RepL.dp e r y)
    | dK r => cases q
    | dT r => cases q
end

/-! ### two operands -/
def Prim2 (K : PySem.W.Frag) (r : R2) (f : D → D → Option PR) : Prop :=
  ∀ (S H : Hp) (x y : V) (dx dy : D) (p : PR) (Q : VK), Same S H → Vw K S H dx x → Vw K S H dy y → f dx dy = some p → (∀ v H' S', Ext S H S' H' → PRes K S' H' H v p → Q v H') → r x y H Q
theorem Prim2.l {K : PySem.W.Frag} {r r' : R2} {f : D → D → Option PR} (h : Prim2 K r f) : Prim2 K (fun x y H Q => r x y H Q ∨ r' x y H Q) f := fun S H x y dx dy p Q a b c d e => .inl (h S H x y dx dy p Q a b c d e)

section
variable {X : Cx}
theorem eqv_some {a b : D} {r : Bool} (h : a.eqv b = some r) : ∃ x y, a.py = some x ∧ b.py = some y ∧ min x.depth y.depth ≤ 64 ∧ r = PyData.eqv x y := by
  unfold D.eqv at h
  cases ha : a.py with
  | none => rw [ha] at h; cases h
  | some x =>
    cases hb : b.py with
    | none => rw [ha, hb] at h; cases h
    | some y =>
      rw [ha, hb] at h
      simp only at h
      split at h
      · rename_i q
        cases h
        exact ⟨x, y, rfl, rfl, q, rfl⟩
      · cases h
theorem inListD_some {a : D} {ys : List D} {r : Bool} (h : inListD a ys = some r) : ∃ x ps, a.py = some x ∧ D.pys ys = some ps ∧ x.depth ≤ 64 ∧ r = ps.any fun z => PyData.eqv z x := by
  unfold inListD at h
  cases ha : a.py with
  | none => rw [ha] at h; cases h
  | some x =>
    cases hb : D.pys ys with
    | none => rw [ha, hb] at h; cases h
    | some ps =>
      rw [ha, hb] at h
      simp only at h
      split at h
      · rename_i q
        cases h
        exact ⟨x, ps, rfl, rfl, q, rfl⟩
      · cases h
mutual
theorem py_plain : ∀ {d : D} {p : PyData}, d.py = some p → p.plain = true
  | .non, _, h => by cases h; rfl
  | .bl _, _, h => by cases h; rfl
  | .int _, _, h => by cases h; rfl
  | .str _, _, h => by cases h; rfl
  | .tup xs, _, h => by
    unfold D.py at h
    cases z : D.pys xs with
    | none => rw [z] at h; cases h
    | some ps => rw [z] at h; cases h; unfold PyData.plain; exact pys_plain z
  | .lst xs, _, h => by
    unfold D.py at h
    cases z : D.pys xs with
    | none => rw [z] at h; cases h
    | some ps => rw [z] at h; cases h; unfold PyData.plain; exact pys_plain z
theorem pys_plain : ∀ {ds : List D} {ps : List PyData}, D.pys ds = some ps → PyData.plainAll ps = true
  | [], _, h => by cases h; rfl
  | d :: ds, _, h => by
    unfold D.pys at h
    cases z : d.py with
    | none => rw [z] at h; cases h
    | some p =>
      cases y : D.pys ds with
      | none => rw [z, y] at h; cases h
      | some qs =>
        rw [z, y] at h; cases h
        unfold PyData.plainAll
        rw [py_plain z, pys_plain y]; rfl
end
def rEqP (K : PySem.W.Frag) (neg : Bool) : R2 := fun x y H Q => ∃ d e, Dp K H x d ∧ Dp K H y e ∧ d.plain = true ∧ e.plain = true ∧ min d.depth e.depth ≤ 64 ∧ Q (.bl (if neg then !PyData.eqv d e else PyData.eqv d e)) H
theorem op_eqP (hu : X.A.units + 66 < cLine) : OpR X (compareOp .Eq) (rEqP X.K false) := by
  intro pins s σ H x y v u Q I rx ry ⟨d, e, hd, he, pd, pe, sm, q⟩
  obtain ⟨as, r1⟩ := Dp.reads I d x v hd rx
  obtain ⟨bs, r2⟩ := Dp.reads I e y u he ry
  exact PySem.SeqAt.eq_plain r1 r2 pd pe (by omega) ⟨.bl _, H, I, rfl, q⟩
theorem op_neP (hu : X.A.units + 66 < cLine) : OpR X (compareOp .NotEq) (rEqP X.K true) := by
  intro pins s σ H x y v u Q I rx ry ⟨d, e, hd, he, pd, pe, sm, q⟩
  obtain ⟨as, r1⟩ := Dp.reads I d x v hd rx
  obtain ⟨bs, r2⟩ := Dp.reads I e y u he ry
  exact PySem.SeqAt.ne_plain r1 r2 pd pe (by omega) ⟨.bl _, H, I, rfl, q⟩
def rInP (K : PySem.W.Frag) (neg : Bool) : R2 := fun x y H Q => ∃ d ds, Dp K H x d ∧ (Dp K H y (.list ds) ∨ Dp K H y (.tuple ds)) ∧ d.plain = true ∧ PyData.plainAll ds = true ∧ d.depth ≤ 64 ∧ Q (.bl (if neg then !(ds.any fun z => PyData.eqv z d) else ds.any fun z => PyData.eqv z d)) H
theorem op_inP (hu : X.A.units + 66 < cLine) : OpR X (compareOp .In) (rInP X.K false) := by
  intro pins s σ H x y v u Q I rx ry ⟨d, ds, hd, he, pd, pe, sm, q⟩
  obtain ⟨as, r1⟩ := Dp.reads I d x v hd rx
  have m : X.A.units + 1 + min (PyData.depthAll ds) d.depth < cLine := by have := Nat.min_le_right (PyData.depthAll ds) d.depth; omega
  rcases he with he | he
  · obtain ⟨bs, r2⟩ := Dp.reads I _ y u he ry
    exact PySem.SeqAt.in_list_data r2 r1 pe pd m ⟨.bl _, H, I, rfl, q⟩
  · obtain ⟨bs, r2⟩ := Dp.reads I _ y u he ry
    exact PySem.SeqAt.in_tuple_data r2 r1 pe pd m ⟨.bl _, H, I, rfl, q⟩
theorem op_ninP (hu : X.A.units + 66 < cLine) : OpR X (compareOp .NotIn) (rInP X.K true) := by
  intro pins s σ H x y v u Q I rx ry ⟨d, ds, hd, he, pd, pe, sm, q⟩
  obtain ⟨as, r1⟩ := Dp.reads I d x v hd rx
  have m : X.A.units + 1 + min (PyData.depthAll ds) d.depth < cLine := by have := Nat.min_le_right (PyData.depthAll ds) d.depth; omega
  rcases he with he | he
  · obtain ⟨bs, r2⟩ := Dp.reads I _ y u he ry
    exact PySem.SeqAt.notIn_list_data r2 r1 pe pd m ⟨.bl _, H, I, rfl, q⟩
  · obtain ⟨bs, r2⟩ := Dp.reads I _ y u he ry
    exact PySem.SeqAt.notIn_tuple_data r2 r1 pe pd m ⟨.bl _, H, I, rfl, q⟩
theorem flat_rep {K : PySem.W.Frag} {S : Hp} {d : D} {v : V} (f : flatD d = true) (h : Rep K S d v) : flatV v = true := by
  cases h <;> first | rfl | cases f
theorem flat_eq {K : PySem.W.Frag} {S : Hp} {d e : D} {v u : V} (f : flatD d = true) (g : flatD e = true) (h : Rep K S d v) (h' : Rep K S e u) : eqV v u = eqF d e := by
  cases h <;> first | (cases f; done) | skip
  all_goals (cases h' <;> first | (cases g; done) | rfl | skip)
  rename_i x y
  show (strOf x == strOf y) = (x == y)
  rw [Bool.eq_iff_iff, beq_iff_eq, beq_iff_eq, strOf_inj]
theorem flat_all {K : PySem.W.Frag} {S : Hp} {ds : List D} {vs : List V} (f : ds.all flatD = true) (h : RepL K S ds vs) : vs.all flatV = true := by
  induction ds generalizing vs with
  | nil => cases h; rfl
  | cons d ds ih =>
    cases h with
    | cons h r =>
      simp only [List.all_cons, Bool.and_eq_true] at f ⊢
      exact ⟨flat_rep f.1 h, ih f.2 r⟩
theorem flat_any {K : PySem.W.Frag} {S : Hp} {a : D} {u : V} {ds : List D} {vs : List V} (fa : flatD a = true) (ha : Rep K S a u) (f : ds.all flatD = true) (h : RepL K S ds vs) : inV u vs = ds.any fun z => eqF z a := by
  induction ds generalizing vs with
  | nil => cases h; rfl
  | cons d ds ih =>
    cases h with
    | cons h r =>
      simp only [List.all_cons, Bool.and_eq_true] at f
      show (eqV _ u || inV u _) = _
      rw [flat_eq f.1 fa h ha, ih f.2 r]; rfl
theorem vw_flat {K : PySem.W.Frag} {S H : Hp} {d : D} {v : V} (f : flatD d = true) (h : Vw K S H d v) : Rep K S d v := by
  rcases h with h | ⟨a, _, h⟩
  · exact h
  · generalize H a = o at h; cases h <;> cases f

theorem vw_tup {K : PySem.W.Frag} {S H : Hp} {ds : List D} {v : V} (h : Vw K S H (.tup ds) v) : Rep K S (.tup ds) v := by
  rcases h with h | ⟨a, _, h⟩
  · exact h
  · generalize H a = o at h; cases h

/-! a dict's keys -/
theorem toKey_inj {j k : DKey} {a : Key} (h : j.toKey = some a) (g : k.toKey = some a) : j = k := by
  cases j <;> cases k <;> simp [DKey.toKey] at h g <;> subst h <;> simp_all [strOf_inj]
theorem key_rep {K : PySem.W.Frag} {S H : Hp} {d : D} {v : V} {k : DKey} (h : Vw K S H d v) (e : d.key = some k) (o : k.ok false = true) : ∃ j, k.toKey = some j ∧ v = kV j := by
  cases d <;> simp only [D.key] at e <;> try (cases e; done)
  · cases e; exact ⟨_, rfl, h.int⟩
  · cases e; exact ⟨_, rfl, h.str⟩
  · rename_i xs
    cases z : D.nks xs with
    | none => rw [z] at e; cases e
    | some y =>
      rw [z] at e
      simp only [Option.bind_some] at e
      split at e
      · cases e; cases o
      · cases e
theorem get_rep {K : PySem.W.Frag} {S : Hp} {kvs : List (DKey × D)} {es : List (Key × V)} {k : DKey} {j : Key} (r : RepK K S kvs es) (hj : k.toKey = some j) :
    (∀ d, kget k kvs = some d → ∃ v, valV es j = some v ∧ Rep K S d v) ∧ (kget k kvs = none → valV es j = none) := by
  induction kvs generalizing es with
  | nil => cases r; exact ⟨fun d h => (nomatch h), fun _ => rfl⟩
  | cons x kvs ih =>
    cases r with
    | @cons k' j' d v _ vs hk hd r =>
      obtain ⟨i1, i2⟩ := ih r
      by_cases e : k = k'
      · subst e
        rw [hj] at hk; cases hk
        have e1 : kget k ((k, d) :: kvs) = some d := by simp [kget]
        have e2 : valV ((j, v) :: vs) j = some v := by simp [valV]
        exact ⟨fun d' h => by rw [e1] at h; cases h; exact ⟨v, e2, hd⟩, fun h => (by rw [e1] at h; cases h)⟩
      · have ej : j' ≠ j := by rintro rfl; exact e (toKey_inj hj hk)
        have e1 : kget k ((k', d) :: kvs) = kget k kvs := by
          simp only [kget, List.lookup_cons]
          rw [show (k == k') = false by simpa using e]
        have e2 : valV ((j', v) :: vs) j = valV vs j := by simp [valV, List.find?_cons, ej]
        rw [e1, e2]
        exact ⟨i1, i2⟩
theorem put_rep {K : PySem.W.Frag} {S : Hp} {kvs : List (DKey × D)} {es : List (Key × V)} {k : DKey} {j : Key} {d : D} {v : V} (r : RepK K S kvs es) (hj : k.toKey = some j) (hd : Rep K S d v) :
    RepK K S (kput k d kvs) (putK es j v) := by
  have any : ∀ (kvs : List (DKey × D)) (es : List (Key × V)), RepK K S kvs es → (kvs.any fun kv => decide (kv.1 = k)) = (es.any fun kv => decide (kv.1 = j)) := by
    intro kvs
    induction kvs with
    | nil => intro es r; cases r; rfl
    | cons x kvs ih =>
      intro es r
      cases r with
      | @cons k' j' d' v' _ vs hk hd' r =>
        simp only [List.any_cons, ih vs r]
        congr 1
        rw [Bool.eq_iff_iff, decide_eq_true_eq, decide_eq_true_eq]
        constructor
        · intro (e : k' = k); subst e; rw [hj] at hk; cases hk; rfl
        · intro (e : j' = j); subst e; exact toKey_inj hk hj
  have map : ∀ (kvs : List (DKey × D)) (es : List (Key × V)), RepK K S kvs es → RepK K S (kvs.map (fun kv => if kv.1 = k then (kv.1, d) else kv)) (es.map (fun kv => if kv.1 = j then (kv.1, v) else kv)) := by
    intro kvs
    induction kvs with
    | nil => intro es r; cases r; exact .nil
    | cons x kvs ih =>
      intro es r
      cases r with
      | @cons k' j' d' v' _ vs hk hd' r =>
        simp only [List.map_cons]
        by_cases e : k' = k
        · subst e
          rw [hj] at hk; cases hk
          simp only [if_true]
          exact .cons hj hd (ih vs r)
        · have ej : j' ≠ j := by rintro rfl; exact e (toKey_inj hk hj)
          simp only [e, ej, if_false]
          exact .cons hk hd' (ih vs r)
  have app : ∀ (kvs : List (DKey × D)) (es : List (Key × V)), RepK K S kvs es → RepK K S (kvs ++ [(k, d)]) (es ++ [(j, v)]) := by
    intro kvs
    induction kvs with
    | nil => intro es r; cases r; exact .cons hj hd .nil
    | cons x kvs ih => intro es r; cases r with | cons a b r => exact .cons a b (ih _ r)
  unfold kput putK
  rw [any kvs es r]
  split
  · exact map kvs es r
  · exact app kvs es r
theorem repK_len {K : PySem.W.Frag} {S : Hp} {kvs : List (DKey × D)} {es : List (Key × V)} (r : RepK K S kvs es) : kvs.length = es.length := by
  induction kvs generalizing es with
  | nil => cases r; rfl
  | cons x kvs ih => cases r with | cons a b r => simp [ih r]

/-! ### the operators -/
theorem sc_of {K : PySem.W.Frag} {S H : Hp} {d : D} {v : V} {Q : VK} (e : Same S H) (q : ∀ v H' S', Ext S H S' H' → PRes K S' H' H v (.sc d) → Q v H') (r : Rep K S d v) : Q v H := q v H S (.refl e) (.sc r)
def rAddA (K : PySem.W.Frag) : R2 := fun x y H Q => rI0 (fun i j => .int (i + j)) x y H Q ∨ (∃ i j, x = .str i ∧ y = .str j ∧ i.length + j.length ≤ sizeLine ∧ Q (.str (i ++ j)) H) ∨ rCat x y H Q ∨ rCatF K x y H Q
theorem op_addA : OpR X (binaryOp .Add) (rAddA X.K) := op_add.or (op_add_str.or (op_cat.or op_catF))
theorem strOf_append (x y : Txt) : strOf x ++ strOf y = strOf (x ++ y) := by
  show Str.mk _ = _
  unfold strOf
  congr 1
  simp
theorem prim_add : Prim2 X.K (rAddA X.K) addD := by
  intro S H x y dx dy p Q e hx hy hp q
  unfold addD at hp
  split at hp
  · cases hp
    exact .inl ⟨_, _, hx.int, hy.int, sc_of e q (.int _)⟩
  · split at hp
    · rename_i hl
      cases hp
      refine .inr (.inl ⟨_, _, hx.str, hy.str, ?_, ?_⟩)
      · rw [strOf_length, strOf_length, ← big_eq]; exact hl
      · rw [strOf_append]; exact sc_of e q (.str _)
    · cases hp
  · split at hp
    · rename_i hl
      cases hp
      obtain ⟨a, xs, rfl, ha, ra⟩ := hx.lst e
      obtain ⟨b, ys, rfl, hb, rb⟩ := hy.lst e
      refine .inr (.inr (.inl ⟨a, b, xs, ys, rfl, rfl, ha, hb, ?_, fun p hp => q _ _ S (ext_new e hp) (new_fr e hp (.lst (ra.append rb)))⟩))
      rw [← ra.length, ← rb.length, ← big_eq]; exact hl
    · cases hp
  · split at hp
    · rename_i hl
      cases hp
      obtain ⟨a, xs, ea, ha, ra⟩ := hx.tup e
      obtain ⟨b, ys, eb, hb, rb⟩ := hy.tup e
      refine .inr (.inr (.inr ⟨a, b, xs, ys, ea, eb, ha, hb, ?_, fun hx0 => ?_, fun hx0 hy0 => ?_, fun _ _ p o hp ho => q _ _ _ (ext_tup e hp) (.sc (new_tup e hp ho (ra.append rb)))⟩))
      · rw [← ra.length, ← rb.length, ← big_eq]; exact hl
      · subst hx0
        cases ra
        rw [← eb]
        exact sc_of e q (vw_tup hy)
      · subst hy0
        cases rb
        rw [← ea, List.append_nil] at *
        exact sc_of e q (vw_tup hx)
    · cases hp
  · cases hp
/-- two ints -/
theorem prim_I {f : Int → Int → D} {g : Int → Int → V} {h : D → D → Option PR} (hg : ∀ K S i j, Rep K S (f i j) (g i j)) (hh : ∀ a b p, h a b = some p → ∃ i j, a = .int i ∧ b = .int j ∧ p = .sc (f i j)) {K : PySem.W.Frag} : Prim2 K (rI0 g) h := by
  intro S H x y dx dy p Q e hx hy hp q
  obtain ⟨i, j, rfl, rfl, rfl⟩ := hh _ _ _ hp
  exact ⟨i, j, hx.int, hy.int, sc_of e q (hg _ _ _ _)⟩
theorem prim_IC {C : Int → Int → Prop} {f : Int → Int → D} {g : Int → Int → V} {h : D → D → Option PR} (hg : ∀ K S i j, Rep K S (f i j) (g i j)) (hh : ∀ a b p, h a b = some p → ∃ i j, a = .int i ∧ b = .int j ∧ C i j ∧ p = .sc (f i j)) {K : PySem.W.Frag} : Prim2 K (rI C g) h := by
  intro S H x y dx dy p Q e hx hy hp q
  obtain ⟨i, j, rfl, rfl, c, rfl⟩ := hh _ _ _ hp
  exact ⟨i, j, hx.int, hy.int, c, sc_of e q (hg _ _ _ _)⟩
theorem prim_sub {K : PySem.W.Frag} : Prim2 K (rI0 fun i j => .int (i - j)) subD := prim_I (f := fun i j => .int (i - j)) (fun _ _ _ _ => .int _) fun a b p h => by
  unfold subD at h
  split at h
  · cases h; exact ⟨_, _, rfl, rfl, rfl⟩
  · cases h
theorem prim_mul {K : PySem.W.Frag} : Prim2 K (rI CMul fun i j => .int (i * j)) mulD := prim_IC (f := fun i j => .int (i * j)) (fun _ _ _ _ => .int _) fun a b p h => by
  unfold mulD at h
  split at h
  · split at h
    · cases h; exact ⟨_, _, rfl, rfl, by assumption, rfl⟩
    · cases h
  · cases h
theorem prim_fdiv {K : PySem.W.Frag} : Prim2 K (rI CDivN fun i j => .int (i.fdiv j)) fdivD := prim_IC (f := fun i j => .int (i.fdiv j)) (fun _ _ _ _ => .int _) fun a b p h => by
  unfold fdivD at h
  split at h
  · split at h
    · cases h; exact ⟨_, _, rfl, rfl, by assumption, rfl⟩
    · cases h
  · cases h
theorem prim_mod {K : PySem.W.Frag} : Prim2 K (rI (fun _ j => j ≠ 0) fun i j => .int (i.fmod j)) modD := prim_IC (f := fun i j => .int (i.fmod j)) (fun _ _ _ _ => .int _) fun a b p h => by
  unfold modD at h
  split at h
  · split at h
    · cases h; exact ⟨_, _, rfl, rfl, by assumption, rfl⟩
    · cases h
  · cases h
theorem prim_pow {K : PySem.W.Frag} : Prim2 K (rI CPow fun i j => .int (i ^ j.toNat)) powD := prim_IC (f := fun i j => .int (i ^ j.toNat)) (fun _ _ _ _ => .int _) fun a b p h => by
  unfold powD at h
  split at h
  · split at h
    · cases h; exact ⟨_, _, rfl, rfl, by assumption, rfl⟩
    · cases h
  · cases h
def rOrd (K : PySem.W.Frag) (f : PyData → PyData → Bool) : R2 := fun x y H Q => ∃ d e, Dp K H x d ∧ Dp K H y e ∧ PySem.W.alike d e = true ∧ d ≠ .none ∧ min d.depth e.depth ≤ 64 ∧ Q (.bl (f d e)) H
theorem op_ltA (hu : X.A.units + 66 < cLine) : OpR X (compareOp .Lt) (fun x y H Q => rI0 (fun i j => .bl (decide (i < j))) x y H Q ∨ rOrd X.K (fun x y => PySem.W.dataLt x y) x y H Q) := op_lt.or (by
  intro pins s σ H x y v u Q I rx ry ⟨d, e, hd, he, al, nn, sm, q⟩
  obtain ⟨as, r1⟩ := Dp.reads I d x v hd rx
  obtain ⟨bs, r2⟩ := Dp.reads I e y u he ry
  exact PySem.W.lt_data r1 r2 al nn (by omega) ⟨.bl _, H, I, rfl, q⟩)
theorem op_leA (hu : X.A.units + 66 < cLine) : OpR X (compareOp .LtE) (fun x y H Q => rI0 (fun i j => .bl (decide (i ≤ j))) x y H Q ∨ rOrd X.K (fun x y => !PySem.W.dataLt y x) x y H Q) := op_le.or (by
  intro pins s σ H x y v u Q I rx ry ⟨d, e, hd, he, al, nn, sm, q⟩
  obtain ⟨as, r1⟩ := Dp.reads I d x v hd rx
  obtain ⟨bs, r2⟩ := Dp.reads I e y u he ry
  exact PySem.W.le_data r1 r2 al nn (by omega) ⟨.bl _, H, I, rfl, q⟩)
theorem op_gtA (hu : X.A.units + 66 < cLine) : OpR X (compareOp .Gt) (fun x y H Q => rI0 (fun i j => .bl (decide (j < i))) x y H Q ∨ rOrd X.K (fun x y => PySem.W.dataLt y x) x y H Q) := op_gt.or (by
  intro pins s σ H x y v u Q I rx ry ⟨d, e, hd, he, al, nn, sm, q⟩
  obtain ⟨as, r1⟩ := Dp.reads I d x v hd rx
  obtain ⟨bs, r2⟩ := Dp.reads I e y u he ry
  exact PySem.W.gt_data r1 r2 al nn (by omega) ⟨.bl _, H, I, rfl, q⟩)
theorem op_geA (hu : X.A.units + 66 < cLine) : OpR X (compareOp .GtE) (fun x y H Q => rI0 (fun i j => .bl (decide (j ≤ i))) x y H Q ∨ rOrd X.K (fun x y => !PySem.W.dataLt x y) x y H Q) := op_ge.or (by
  intro pins s σ H x y v u Q I rx ry ⟨d, e, hd, he, al, nn, sm, q⟩
  obtain ⟨as, r1⟩ := Dp.reads I d x v hd rx
  obtain ⟨bs, r2⟩ := Dp.reads I e y u he ry
  exact PySem.W.ge_data r1 r2 al nn (by omega) ⟨.bl _, H, I, rfl, q⟩)
theorem prim_cmp {K : PySem.W.Frag} (c : Int → Int → Bool) (f : PyData → PyData → Bool) : Prim2 K (fun x y H Q => rI0 (fun i j => .bl (c i j)) x y H Q ∨ rOrd K f x y H Q) (cmpA c f) := by
  intro S H x y dx dy p Q e hx hy hp q
  unfold cmpA at hp
  split at hp
  · cases hp
    exact .inl ⟨_, _, hx.int, hy.int, sc_of e q (.bl _)⟩
  · unfold ordD at hp
    split at hp
    · rename_i a b pa pb
      split at hp
      · rename_i c
        cases hp
        exact .inr ⟨a, b, hx.dp e pa, hy.dp e pb, c.1, (fun z => by have := c.2.1; rw [z] at this; cases this), c.2.2, sc_of e q (.bl _)⟩
      · cases hp
    · cases hp
theorem prim_eq : Prim2 X.K (rEqP X.K false) (op2D .eq) := by
  intro S H x y dx dy p Q e hx hy hp q
  simp only [op2D, Option.map_eq_some_iff] at hp
  obtain ⟨r, hr, rfl⟩ := hp
  obtain ⟨a, b, pa, pb, sm, rfl⟩ := eqv_some hr
  exact ⟨a, b, hx.dp e pa, hy.dp e pb, py_plain pa, py_plain pb, sm, sc_of e q (.bl _)⟩
theorem prim_ne : Prim2 X.K (rEqP X.K true) (op2D .ne) := by
  intro S H x y dx dy p Q e hx hy hp q
  simp only [op2D, Option.map_eq_some_iff] at hp
  obtain ⟨r, hr, rfl⟩ := hp
  obtain ⟨a, b, pa, pb, sm, rfl⟩ := eqv_some hr
  exact ⟨a, b, hx.dp e pa, hy.dp e pb, py_plain pa, py_plain pb, sm, sc_of e q (.bl _)⟩
theorem vw_non_iff {K : PySem.W.Frag} {S H : Hp} {d : D} {v : V} (h : Vw K S H d v) : decide (v = .non) = d.isNon := by
  rcases h with h | ⟨a, rfl, h⟩
  · cases h <;> rfl
  · generalize H a = o at h; cases h <;> rfl
theorem prim_is {K : PySem.W.Frag} : Prim2 K (fun x y H Q => y = .non ∧ Q (.bl (decide (x = .non))) H) (op2D .is) := by
  intro S H x y dx dy p Q e hx hy hp q
  simp only [op2D] at hp
  unfold isD at hp
  split at hp
  · cases hp
    refine ⟨hy.non, ?_⟩
    rw [vw_non_iff hx]
    exact sc_of e q (.bl _)
  · cases hp
theorem prim_isn {K : PySem.W.Frag} : Prim2 K (fun x y H Q => y = .non ∧ Q (.bl (!decide (x = .non))) H) (op2D .isn) := by
  intro S H x y dx dy p Q e hx hy hp q
  simp only [op2D] at hp
  unfold isD at hp
  split at hp
  · cases hp
    refine ⟨hy.non, ?_⟩
    rw [vw_non_iff hx]
    exact sc_of e q (.bl _)
  · cases hp
/-- in, not in -/
def rInA (K : PySem.W.Frag) (neg : Bool) : R2 := fun x y H Q =>
  (∃ i j, x = .str i ∧ y = .str j ∧ Q (.bl (if neg then !(!(Builtin.Str.occurrences j i 0 j.length 1).isEmpty) else !(Builtin.Str.occurrences j i 0 j.length 1).isEmpty)) H) ∨ rInP K neg x y H Q
theorem op_inA (hu : X.A.units + 66 < cLine) : OpR X (compareOp .In) (rInA X.K false) := op_in_str.or (op_inP hu)
theorem op_ninA (hu : X.A.units + 66 < cLine) : OpR X (compareOp .NotIn) (rInA X.K true) := L2.op_notIn_str.or (op_ninP hu)
def notDct : D → Bool
  | .dct _ _ => false
  | _ => true
theorem prim_in (neg : Bool) {S H : Hp} {x y : V} {dx dy : D} {r : Bool} {Q : VK} (e : Same S H) (hx : Vw X.K S H dx x) (hy : Vw X.K S H dy y) (hp : inD dx dy = some r) (nd : notDct dy = true)
    (q : ∀ v H' S', Ext S H S' H' → PRes X.K S' H' H v (.sc (.bl (if neg then !r else r))) → Q v H') : rInA X.K neg x y H Q := by
  unfold inD at hp
  split at hp
  · rename_i z
    split at hp
    · rename_i c
      cases hp
      refine .inl ⟨_, _, hx.str, hy.str, ?_⟩
      have h := StrLaws.found_one (strOf z) c
      rw [strOf_cps] at h
      have h' : (!(Builtin.Str.occurrences (strOf z) (strOf [c]) 0 (strOf z).length 1).isEmpty) = decide (c ∈ z) := h
      rw [h']
      exact sc_of e q (.bl _)
    · cases hp
  · rename_i ys
    obtain ⟨a, ps, pa, pb, sm, rfl⟩ := inListD_some hp
    exact .inr ⟨a, ps, hx.dp e pa, .inl (hy.dp e (by unfold D.py; rw [pb]; rfl)), py_plain pa, pys_plain pb, sm, sc_of e q (.bl _)⟩
  · rename_i ys
    obtain ⟨a, ps, pa, pb, sm, rfl⟩ := inListD_some hp
    exact .inr ⟨a, ps, hx.dp e pa, .inr (hy.dp e (by unfold D.py; rw [pb]; rfl)), py_plain pa, pys_plain pb, sm, sc_of e q (.bl _)⟩
  · cases nd
  · cases hp

/-! ### places, slices -/
theorem ix_eq (n : Nat) (i : Int) : ix n i = ixN n i := rfl
theorem cut_eq {α : Type} (xs : List α) (lo hi : Option Int) : cut xs lo hi = (xs.drop (HT.sIx xs.length 0 lo)).take (HT.sIx xs.length xs.length hi - HT.sIx xs.length 0 lo) := by
  have e : ∀ n d o, cutAt n d o = HT.sIx n d o := fun n d o => by cases o <;> rfl
  unfold cut
  rw [e, e]
theorem RepL.cut {K : PySem.W.Frag} {S : Hp} {ds : List D} {vs : List V} (h : RepL K S ds vs) (lo hi : Option Int) : RepL K S (Fi.cut ds lo hi) (cutV vs lo hi) := by
  rw [cut_eq]
  unfold cutV
  rw [h.length]
  exact (h.drop _).take _
theorem prim_ix {S H : Hp} {x y : V} {dx dy : D} {p : PR} {Q : VK} (e : Same S H) (hx : Vw X.K S H dx x) (hy : Vw X.K S H dy y) (hp : ixD dx dy = some p) (nd : notDct dx = true)
    (q : ∀ v H' S', Ext S H S' H' → PRes X.K S' H' H v p → Q v H') : rIx X.K x y H Q := by
  unfold ixD at hp
  have at_ : ∀ {ds : List D} {vs : List V} {i : Int} {p : PR}, RepL X.K S ds vs → ((ix ds.length i).bind fun j => ds[j]?.map PR.sc) = some p → ∃ d v, p = .sc d ∧ atI vs i = some v ∧ Rep X.K S d v := by
    intro ds vs i p r h
    cases z : ix ds.length i with
    | none => rw [z] at h; cases h
    | some j =>
      rw [z] at h
      simp only [Option.bind_some, Option.map_eq_some_iff] at h
      obtain ⟨d, hd, rfl⟩ := h
      obtain ⟨v, hv, rv⟩ := r.get hd
      refine ⟨d, v, rfl, ?_, rv⟩
      unfold atI
      rw [← r.length, ← ix_eq, z]
      exact hv
  split at hp
  · obtain ⟨a, vs, rfl, ha, r⟩ := hx.lst e
    obtain ⟨d, v, rfl, hv, rv⟩ := at_ r hp
    exact .inl ⟨a, vs, _, v, rfl, hy.int, .of ha, hv, sc_of e q rv⟩
  · obtain ⟨a, vs, rfl, ha, r⟩ := hx.tup e
    obtain ⟨d, v, rfl, hv, rv⟩ := at_ r hp
    exact .inr (.inl ⟨a, vs, _, v, rfl, hy.int, ha, hv, sc_of e q rv⟩)
  · rename_i ns i
    obtain ⟨a, rfl, ha⟩ := hx.scr e
    cases z : ix ns.length i with
    | none => rw [z] at hp; cases hp
    | some j =>
      rw [z] at hp
      simp only [Option.bind_some, Option.map_eq_some_iff] at hp
      obtain ⟨n, hn, rfl⟩ := hp
      refine .inl ⟨a, _, i, .int n, rfl, hy.int, ha, ?_, sc_of e q (.int n)⟩
      unfold atI
      rw [List.length_map, ← ix_eq, z]
      show (ns.map V.int)[j]? = _
      rw [List.getElem?_map, hn]; rfl
  · rename_i xs i
    split at hp
    · rename_i hl
      cases z : ix xs.length i with
      | none => rw [z] at hp; cases hp
      | some j =>
        rw [z] at hp
        simp only [Option.bind_some, Option.map_eq_some_iff] at hp
        obtain ⟨c, hc, rfl⟩ := hp
        refine .inr (.inr ⟨strOf xs, i, c, hx.str, hy.int, ?_, ?_, sc_of e q (.str [c])⟩)
        · rw [strOf_length, ← big_eq]; exact hl
        · rw [strOf_cps]
          unfold atI
          rw [← ix_eq, z]
          exact hc
    · cases hp
  · cases nd
  · cases hp
def rSlX (K : PySem.W.Frag) : V → Option Int → Option Int → Hp → VK → Prop := fun x lo hi H Q => rSlL K x lo hi H Q ∨ rSlF K x lo hi H Q ∨ rSlS x lo hi H Q
theorem sl_any : SlR X (rSlX X.K) := sl_list.or (sl_tupF.or sl_str)
theorem whole_cut (vs : List V) (lo hi : Option Int) (h : HT.sIx vs.length 0 lo = 0 ∧ HT.sIx vs.length vs.length hi = vs.length) : cutV vs lo hi = vs := by
  unfold cutV
  rw [h.1, h.2]
  simp
theorem whole_cutD {ds : List D} {vs : List V} (hl : ds.length = vs.length) (lo hi : Option Int) (h : HT.sIx vs.length 0 lo = 0 ∧ HT.sIx vs.length vs.length hi = vs.length) : cut ds lo hi = ds := by
  rw [cut_eq, hl, h.1, h.2]
  simp [← hl]
theorem prim_cut {S H : Hp} {x : V} {dx : D} {lo hi : Option Int} {p : PR} {Q : VK} (e : Same S H) (hx : Vw X.K S H dx x) (hp : cutD dx lo hi = some p)
    (q : ∀ v H' S', Ext S H S' H' → PRes X.K S' H' H v p → Q v H') : rSlX X.K x lo hi H Q := by
  unfold cutD at hp
  split at hp
  · cases hp
    obtain ⟨a, vs, rfl, ha, r⟩ := hx.lst e
    exact .inl ⟨a, vs, rfl, .of ha, fun p hp => q _ _ S (ext_new e hp) (new_fr e hp (.lst (r.cut lo hi)))⟩
  · cases hp
    obtain ⟨a, vs, ea, ha, r⟩ := hx.tup e
    refine .inr (.inl ⟨a, vs, ea, ha, fun w => ?_, fun _ p o hp ho => q _ _ _ (ext_tup e hp) (.sc (new_tup e hp ho (r.cut lo hi)))⟩)
    rw [whole_cutD r.length lo hi w] at q
    rw [← ea]
    exact sc_of e q (vw_tup hx)
  · split at hp
    · rename_i xs hl
      cases hp
      refine .inr (.inr ⟨strOf xs, hx.str, ?_, ?_⟩)
      · rw [strOf_length, ← big_eq]; exact hl
      · have : cutS (strOf xs) lo hi = strOf (cut xs lo hi) := by
          rw [cut_eq]
          unfold cutS
          rw [strOf_cps, strOf_length]; rfl
        rw [this]
        exact sc_of e q (.str _)
    · cases hp
  · cases hp

/-! ### truth, built-ins -/
theorem vw_truth {S H : Hp} {x : V} {d : D} {k : Bool} (e : Same S H) (hx : Vw X.K S H d x) (h : d.truth = some k) : TruV X.K x H k := by
  cases d <;> simp only [D.truth] at h <;> try (cases h; done)
  · cases h; rw [hx.non]; exact rfl
  · cases h; rw [hx.bl]; exact rfl
  · cases h; rw [hx.int]; exact rfl
  · rename_i xs
    split at h
    · rename_i hl
      cases h
      rw [hx.str]
      refine ⟨by rw [strOf_length, ← big_eq]; exact hl, ?_⟩
      rw [strOf_length]
      cases xs with
      | nil => rfl
      | cons a r => simp; omega
    · cases h
  · cases h
    obtain ⟨a, vs, rfl, ha, r⟩ := hx.tup e
    refine .inr (.inl ⟨vs, ha, ?_⟩)
    cases r <;> rfl
  · cases h
    obtain ⟨a, vs, rfl, ha, r⟩ := hx.lst e
    refine .inl ⟨vs, .of ha, ?_⟩
    cases r <;> rfl
  · rename_i t kvs
    cases t with
    | true => simp only [D.truth] at h; cases h
    | false =>
      simp only [D.truth] at h; cases h
      obtain ⟨a, es, rfl, ha, r⟩ := hx.dK e
      refine .inr (.inr ⟨es, ha, ?_⟩)
      cases r <;> rfl
inductive VwL (K : PySem.W.Frag) (S H : Hp) : List D → List V → Prop
  | nil : VwL K S H [] []
  | cons {d : D} {v : V} {ds : List D} {vs : List V} : Vw K S H d v → VwL K S H ds vs → VwL K S H (d :: ds) (v :: vs)
def PrimC (K : PySem.W.Frag) (r : List V → Hp → VK → Prop) (f : List D → Option PR) : Prop :=
  ∀ (S H : Hp) (vs : List V) (ds : List D) (p : PR) (Q : VK), Same S H → VwL K S H ds vs → f ds = some p → (∀ v H' S', Ext S H S' H' → PRes K S' H' H v p → Q v H') → r vs H Q
def rLen (K : PySem.W.Frag) : List V → Hp → VK → Prop := fun xs H Q => (∃ x n, xs = [x] ∧ LenV K x H n ∧ Q (.int n) H) ∨ (∃ a kvs, xs = [V.ref a] ∧ H a = some (.dK kvs) ∧ Q (.int kvs.length) H)
theorem cr_len : CallR X (.builtin "len") (rLen X.K) := call_len.or call_lenD
theorem prim_len : PrimC X.K (rLen X.K) lenB := by
  intro S H vs ds p Q e hv hp q
  unfold lenB at hp
  split at hp
  · rename_i d
    cases hv with
    | cons hd hr =>
      cases hr
      simp only [Option.map_eq_some_iff] at hp
      obtain ⟨n, hn, rfl⟩ := hp
      cases d <;> simp only [D.len] at hn <;> try (cases hn; done)
      · split at hn
        · rename_i xs hl
          cases hn
          refine .inl ⟨_, _, rfl, ?_, sc_of e q (.int _)⟩
          rw [hd.str]
          exact ⟨by rw [strOf_length, ← big_eq]; exact hl, by rw [strOf_length]⟩
        · cases hn
      · cases hn
        obtain ⟨a, us, rfl, ha, r⟩ := hd.tup e
        exact .inl ⟨_, _, rfl, .inr ⟨us, ha, r.length⟩, sc_of e q (.int _)⟩
      · cases hn
        obtain ⟨a, us, rfl, ha, r⟩ := hd.lst e
        exact .inl ⟨_, _, rfl, .inl ⟨us, .of ha, r.length⟩, sc_of e q (.int _)⟩
      · rename_i t kvs
        cases t with
        | true => simp only [D.len] at hn; cases hn
        | false =>
          simp only [D.len] at hn; cases hn
          obtain ⟨a, es, rfl, ha, r⟩ := hd.dK e
          refine .inr ⟨a, es, rfl, ha, ?_⟩
          rw [← repK_len r]
          exact sc_of e q (.int _)
      · rename_i ns
        cases hn
        obtain ⟨a, rfl, ha⟩ := hd.scr e
        exact .inl ⟨_, _, rfl, .inl ⟨_, ha, (List.length_map _).symm⟩, sc_of e q (.int _)⟩
  · cases hp
theorem vwl1 {K : PySem.W.Frag} {S H : Hp} {d : D} {vs : List V} (h : VwL K S H [d] vs) : ∃ v, vs = [v] ∧ Vw K S H d v := by
  cases h with | cons a r => cases r; exact ⟨_, rfl, a⟩
theorem vwl2 {K : PySem.W.Frag} {S H : Hp} {d e : D} {vs : List V} (h : VwL K S H [d, e] vs) : ∃ v u, vs = [v, u] ∧ Vw K S H d v ∧ Vw K S H e u := by
  cases h with | cons a r => cases r with | cons b r => cases r; exact ⟨_, _, rfl, a, b⟩
theorem prim_abs : PrimC X.K (fun xs H Q => ∃ i, xs = [.int i] ∧ Q (.int (if i < 0 then -i else i)) H) absB := by
  intro S H vs ds p Q e hv hp q
  unfold absB at hp
  split at hp
  · cases hp
    obtain ⟨v, rfl, h⟩ := vwl1 hv
    exact ⟨_, by rw [h.int], sc_of e q (.int _)⟩
  · cases hp
theorem prim_int : PrimC X.K (fun xs H Q => (∃ i, xs = [.int i] ∧ Q (.int i) H) ∨ ∃ k, xs = [.bl k] ∧ Q (.int (if k then 1 else 0)) H) intB := by
  intro S H vs ds p Q e hv hp q
  unfold intB at hp
  split at hp
  · cases hp
    obtain ⟨v, rfl, h⟩ := vwl1 hv
    exact .inl ⟨_, by rw [h.int], sc_of e q (.int _)⟩
  · cases hp
theorem prim_tuple : PrimC X.K (rTupF X.K) tupleB := by
  intro S H vs ds p Q e hv hp q
  unfold tupleB at hp
  split at hp
  · cases hp
    obtain ⟨v, rfl, h⟩ := vwl1 hv
    obtain ⟨a, us, rfl, ha, r⟩ := h.lst e
    exact ⟨a, us, rfl, .inl ⟨.of ha, fun p o hp ho => q _ _ _ (ext_tup e hp) (.sc (new_tup e hp ho r))⟩⟩
  · cases hp
    obtain ⟨v, rfl, h⟩ := vwl1 hv
    obtain ⟨a, us, ea, ha, r⟩ := h.tup e
    refine ⟨a, us, by rw [ea], .inr ⟨ha, ?_⟩⟩
    rw [← ea]
    exact sc_of e q (vw_tup h)
  · cases hp
theorem prim_list : PrimC X.K (fun xs H Q => ∃ p ys, xs = [.ref p] ∧ (SqL X.K H p ys ∨ SqT X.K H p ys) ∧ ∀ l, H l = none → Q (.ref l) (upd H l (.lst ys))) listB := by
  intro S H vs ds p Q e hv hp q
  unfold listB at hp
  split at hp
  · cases hp
    obtain ⟨v, rfl, h⟩ := vwl1 hv
    obtain ⟨a, us, rfl, ha, r⟩ := h.lst e
    exact ⟨a, us, rfl, .inl (.of ha), fun p hp => q _ _ S (ext_new e hp) (new_fr e hp (.lst r))⟩
  · cases hp
    obtain ⟨v, rfl, h⟩ := vwl1 hv
    obtain ⟨a, us, rfl, ha, r⟩ := h.tup e
    exact ⟨a, us, rfl, .inr ha, fun p hp => q _ _ S (ext_new e hp) (new_fr e hp (.lst r))⟩
  · cases hp
theorem bls_rep {K : PySem.W.Frag} {S : Hp} : ∀ {ds : List D} {vs : List V} {bs : List Bool}, RepL K S ds vs → bls ds = some bs → vs = bs.map V.bl
  | [], _, _, .nil, h => by cases h; rfl
  | d :: ds, _, bs, .cons hd r, h => by
    unfold bls at h
    split at h
    · rename_i heq; cases heq
    · rename_i b r' heq
      cases heq
      simp only [Option.map_eq_some_iff] at h
      obtain ⟨bs', h', rfl⟩ := h
      rw [bls_rep r h']
      cases hd; rfl
    · cases h
theorem prim_any : PrimC X.K (rAny X.K) anyB := by
  intro S H vs ds p Q e hv hp q
  unfold anyB at hp
  split at hp
  · simp only [Option.map_eq_some_iff] at hp
    obtain ⟨bs, hb, rfl⟩ := hp
    obtain ⟨v, rfl, h⟩ := vwl1 hv
    obtain ⟨a, us, rfl, ha, r⟩ := h.lst e
    have := bls_rep r hb
    subst this
    exact ⟨a, bs, rfl, .of ha, sc_of e q (.bl _)⟩
  · cases hp
theorem prim_all : PrimC X.K (rAll X.K) allB := by
  intro S H vs ds p Q e hv hp q
  unfold allB at hp
  split at hp
  · simp only [Option.map_eq_some_iff] at hp
    obtain ⟨bs, hb, rfl⟩ := hp
    obtain ⟨v, rfl, h⟩ := vwl1 hv
    obtain ⟨a, us, rfl, ha, r⟩ := h.lst e
    have := bls_rep r hb
    subst this
    exact ⟨a, bs, rfl, .of ha, sc_of e q (.bl _)⟩
  · cases hp
theorem kit_all : (["NoneType", "bool", "int", "str", "tuple", "list", "dict"].all fun a => tyNames.all fun b => kitB a b == some (tySub a b)) = true := by decide +kernel
theorem ty_of {S H : Hp} {d : D} {v : V} {a : String} (e : Same S H) (h : Vw X.K S H d v) (n : d.tyName = some a) : TyX X.K H v (.type a) := by
  cases d <;> simp only [D.tyName] at n <;> try (cases n; done)
  · cases n; rw [h.non]; exact .base .non
  · cases n; rw [h.bl]; exact .base (.bl _)
  · cases n; rw [h.int]; exact .base (.int _)
  · cases n; rw [h.str]; exact .base (.str _)
  · cases n
    obtain ⟨a, us, rfl, ha, r⟩ := h.tup e
    rcases ha with (ha | ⟨o, ha⟩) | ⟨o, its, m, ha, hc, _⟩
    · exact .base (.tup ha)
    · exact .fTuple ha
    · exact .kTuple ha hc
  · cases n
    obtain ⟨a, us, rfl, ha, r⟩ := h.lst e
    exact .base (.lst ha)
  · rename_i t kvs
    cases t with
    | false => cases n; obtain ⟨a, es, rfl, ha, r⟩ := h.dK e; exact .base (.dK ha)
    | true => cases n
theorem tyName_in {d : D} {a : String} (h : d.tyName = some a) : a ∈ ["NoneType", "bool", "int", "str", "tuple", "list", "dict"] := by
  rcases d with _ | _ | _ | _ | _ | _ | ⟨_ | _, _⟩ | _ | _ | _ <;> simp only [D.tyName] at h <;> first | (cases h; done) | (cases h; simp)
theorem vw_ty {K : PySem.W.Frag} {S H : Hp} {v : V} {n : String} (h : Vw K S H (.ty n) v) : v = .ty n := by
  rcases h with h | ⟨a, _, h⟩
  · cases h; rfl
  · generalize H a = o at h; cases h
theorem prim_isinst : PrimC X.K (rIsi X.K) isinstB := by
  intro S H vs ds p Q e hv hp q
  unfold isinstB at hp
  split at hp
  · rename_i d b
    split at hp
    · rename_i hb
      simp only [Option.map_eq_some_iff] at hp
      obtain ⟨a, ha, rfl⟩ := hp
      obtain ⟨v, u, rfl, h, hu⟩ := vwl2 hv
      rw [vw_ty hu]
      have ka := kit_all
      rw [List.all_eq_true] at ka
      have kb := ka a (tyName_in ha)
      rw [List.all_eq_true] at kb
      have kc := kb b (by simpa using hb)
      rw [beq_iff_eq] at kc
      exact ⟨v, .ty b, _, _, _, rfl, .ty b, ty_of e h ha, kit_ty kc, sc_of e q (.bl _)⟩
    · cases hp
  · cases hp
/-! ### methods that change nothing -/
theorem txts_rep {K : PySem.W.Frag} {S : Hp} : ∀ {ds : List D} {vs : List V} {xs : List Txt}, RepL K S ds vs → txts ds = some xs → vs = xs.map fun x => V.str (strOf x)
  | [], _, _, .nil, h => by cases h; rfl
  | d :: ds, _, bs, .cons hd r, h => by
    unfold txts at h
    split at h
    · rename_i heq; cases heq
    · rename_i b r' heq
      cases heq
      simp only [Option.map_eq_some_iff] at h
      obtain ⟨bs', h', rfl⟩ := h
      rw [txts_rep r h']
      cases hd; rfl
    · cases h
theorem joinT_eq (s : Txt) : ∀ ts, joinT s ts = TL.joinL s ts
  | [] => rfl
  | [_] => rfl
  | p :: q :: r => by
    show p ++ (s ++ joinT s (q :: r)) = p ++ (s ++ TL.joinL s (q :: r))
    rw [joinT_eq s (q :: r)]
def rJoin (K : PySem.W.Frag) : V → List V → Hp → VK → Prop := fun x xs H Q => ∃ a p, ∃ ys : List Str, x = .str a ∧ xs = [.ref p] ∧ (SqL K H p (ys.map V.str) ∨ SqT K H p (ys.map V.str)) ∧
    (ys.map (·.length)).sum + ys.length * a.length ≤ 16777216 ∧ Q (.str (Txt.join a ys)) H
theorem cr_join : MtR X "str.join" (rJoin X.K) := mt_join
theorem prim_join {S H : Hp} {x : V} {vs : List V} {d : D} {ds : List D} {p : PR} {Q : VK} (e : Same S H) (hx : Vw X.K S H d x) (hv : VwL X.K S H ds vs) (hp : joinB d ds = some p)
    (q : ∀ v H' S', Ext S H S' H' → PRes X.K S' H' H v p → Q v H') : rJoin X.K x vs H Q ∧ tyV X.K "str" x H := by
  have fin : ∀ {s : Txt} {ts : List Txt}, (ts.map List.length).sum + ts.length * s.length ≤ bigLine → p = .sc (.str (joinT s ts)) → ((ts.map strOf).map (·.length)).sum + (ts.map strOf).length * (strOf s).length ≤ 16777216 ∧ Q (.str (Txt.join (strOf s) (ts.map strOf))) H := by
    intro s ts hl hp
    subst hp
    refine ⟨?_, ?_⟩
    · rw [List.map_map, List.length_map, strOf_length, show ((fun x : Str => x.length) ∘ strOf) = List.length by funext z; exact strOf_length z]; exact hl
    · have := SX.join_S s ts
      rw [show ts.map strOf = ts.map SX.S from rfl, show Txt.join (strOf s) (ts.map SX.S) = SX.S (TL.joinL s ts) from this, ← joinT_eq]
      exact sc_of e q (.str _)
  unfold joinB at hp
  split at hp
  · simp only [Option.bind_eq_some_iff] at hp
    obtain ⟨ts, ht, hp⟩ := hp
    split at hp
    · rename_i hl
      cases hp
      obtain ⟨v, rfl, h⟩ := vwl1 hv
      obtain ⟨a, us, rfl, ha, r⟩ := h.lst e
      have := txts_rep r ht
      subst this
      rw [hx.str]
      obtain ⟨f1, f2⟩ := fin hl rfl
      exact ⟨⟨_, a, _, rfl, rfl, .inl (.of (by rw [List.map_map]; exact ha)), f1, f2⟩, rfl⟩
    · cases hp
  · simp only [Option.bind_eq_some_iff] at hp
    obtain ⟨ts, ht, hp⟩ := hp
    split at hp
    · rename_i hl
      cases hp
      obtain ⟨v, rfl, h⟩ := vwl1 hv
      obtain ⟨a, us, rfl, ha, r⟩ := h.tup e
      have := txts_rep r ht
      subst this
      rw [hx.str]
      obtain ⟨f1, f2⟩ := fin hl rfl
      exact ⟨⟨_, a, _, rfl, rfl, .inr (by rw [List.map_map]; exact ha), f1, f2⟩, rfl⟩
    · cases hp
  · cases hp
end
end Fi
end

section
/-! FiCs: lists sorted. Own work. -/
namespace Fi
open PySem PySem.Spec L2
open PySem.W (EachIs AllAlike Sortable)
variable [J : HW]
/-- sorted(xs): xs a list that reads as data that can be sorted -/
def rSortD (K : PySem.W.Frag) : List V → Hp → VK → Prop := fun vs H Q => ∃ (a : Addr) (zs : List (V × PyData)), vs = [V.ref a] ∧ SqL K H a (zs.map Prod.fst) ∧ DpAll K H (zs.map Prod.fst) (zs.map Prod.snd) ∧
  AllAlike (zs.map Prod.snd) ∧ Sortable (zs.map Prod.snd) ∧ (∀ z ∈ zs, z.2.depth ≤ 64) ∧
  ∀ p, H p = none → Q (.ref p) (upd H p (.lst ((zs.mergeSort (PySem.W.dataLe false Prod.snd)).map Prod.fst)))
theorem each_of_vals : ∀ {zs : List (V × PyData)} {us : List Value}, Vals (zs.map Prod.fst) us → EachIs (fun u (z : V × PyData) => RelV z.1 u) us zs
  | [], _, .nil => .nil
  | _ :: _, _, .cons h r => .cons h (each_of_vals r)
theorem vals_of_each : ∀ {us : List Value} {zs : List (V × PyData)}, EachIs (fun u (z : V × PyData) => RelV z.1 u) us zs → Vals (zs.map Prod.fst) us
  | _, _, .nil => .nil
  | _, _, .cons h r => .cons h (vals_of_each r)
section
variable {X : Cx}
theorem each_reads {pins : List (Addr × Obj)} {σ : L2.St} {H : Hp} {s : Shared} (I : Inv X pins σ H s) : ∀ {zs : List (V × PyData)} {us : List Value}, Vals (zs.map Prod.fst) us → DpAll X.K H (zs.map Prod.fst) (zs.map Prod.snd) →
    EachIs (fun u (z : V × PyData) => ∃ as, Reads s.heap u z.2 as) us zs
  | [], _, .nil, _ => .nil
  | _ :: _, _, .cons h r, .cons d ds => .cons (Dp.reads I _ _ _ d h) (each_reads I r ds)
theorem cr_sortD (hu : X.A.units + 67 < cLine) : CallR X (.builtin "sorted") (rSortD X.K) := by
  intro pins s σ H vs us Q I r h
  obtain ⟨a, zs, rfl, hl, hd, hal, hs, hdep, q⟩ := h
  rw [Vals.ref1 r]
  obtain ⟨its, rv, pl, hz⟩ := I.list hl
  rw [List.length_map] at hz
  refine PySem.W.sorted_data pl.isList (each_of_vals rv) (each_reads I rv hd) hal hs hz (fun z hz => by have := hdep z hz; omega) fun out hlen eo => ?_
  obtain ⟨ep, he⟩ := PyProof.Rows.sortedAll_at s.heap its out.toArray
  have hz2 : ((zs.mergeSort (PySem.W.dataLe false Prod.snd)).map Prod.fst).length ≤ sizeLine := by rw [List.length_map, List.length_mergeSort]; exact hz
  exact ⟨.ref _, upd H (s.heap.objs.size + 1) (.lst ((zs.mergeSort (PySem.W.dataLe false Prod.snd)).map Prod.fst)), I.laid (t' := s.toks) (fun _ _ => PyProof.Rows.sortedAll_old) (Nat.le_succ _) ⟨hz2, out, ep, vals_of_each eo, he⟩, rfl, q _ (I.hok.fresh (Nat.le_succ _))⟩
theorem sortOk_alike {ps : List PyData} (h : sortOk ps = true) : AllAlike ps ∧ Sortable ps ∧ ∀ p ∈ ps, p.depth ≤ 64 := by
  unfold sortOk at h
  simp only [Bool.and_eq_true, Bool.or_eq_true, List.all_eq_true, decide_eq_true_eq] at h
  obtain ⟨⟨h1, h2⟩, h3⟩ := h
  refine ⟨fun a ha b hb => h1 a ha b hb, ?_, h3⟩
  rcases h2 with h2 | h2
  · refine .inl fun d hd => ?_
    have := h2 d hd
    cases d <;> simp only [tupHead] at this <;> try (cases this; done)
    rename_i xs
    cases xs with
    | nil => cases this
    | cons x r => exact ⟨x, r, rfl⟩
  · refine .inr fun d hd => ?_
    have := h2 d hd
    cases d <;> simp only [plainKey] at this <;> first | (cases this; done) | exact ⟨fun e => (nomatch e), fun _ e => (nomatch e)⟩
theorem pys_map : ∀ {ds : List D} {ps : List PyData}, D.pys ds = some ps → ps = ds.map encD
  | [], _, h => by cases h; rfl
  | d :: ds, _, h => by
    unfold D.pys at h
    split at h
    · rename_i a b ha hb
      cases h
      rw [pys_map hb]
      simp only [List.map_cons, encD, ha, Option.getD_some]
    · cases h
theorem sort_rows {K : PySem.W.Frag} {S H : Hp} {xs : List D} {us : List V} {p : PR} (e : Same S H) (r : RepL K S xs us) (hp : sortC xs = some p) : ∃ zs : List (V × PyData), us = zs.map Prod.fst ∧ DpAll K H (zs.map Prod.fst) (zs.map Prod.snd) ∧
    AllAlike (zs.map Prod.snd) ∧ Sortable (zs.map Prod.snd) ∧ (∀ z ∈ zs, z.2.depth ≤ 64) ∧ p = .fr (.lst (xs.mergeSort leD)) ∧ RepL K S (xs.mergeSort leD) ((zs.mergeSort (PySem.W.dataLe false Prod.snd)).map Prod.fst) := by
  unfold sortC at hp
  simp only [Option.bind_eq_some_iff] at hp
  obtain ⟨ps, hps, hp⟩ := hp
  split at hp
  · rename_i ok
    cases hp
    obtain ⟨h1, h2, h3⟩ := sortOk_alike ok
    have dp := RepL.dp e r hps
    have hm := pys_map hps
    subst hm
    -- the rows side by side
    have rows : ∀ {xs : List D} {us : List V}, RepL K S xs us → ∃ zs : List (D × V), xs = zs.map Prod.fst ∧ us = zs.map Prod.snd ∧ ∀ z ∈ zs, Rep K S z.1 z.2 := by
      intro xs
      induction xs with
      | nil => intro us r; cases r; exact ⟨[], rfl, rfl, fun z hz => by simp at hz⟩
      | cons x xs ih =>
        intro us r
        cases r with
        | @cons _ v _ vs h r =>
          obtain ⟨zs, e1, e2, e3⟩ := ih r
          refine ⟨(x, v) :: zs, by rw [e1]; rfl, by rw [e2]; rfl, fun z hz => ?_⟩
          rcases List.mem_cons.mp hz with rfl | hz
          · exact h
          · exact e3 z hz
    obtain ⟨zs, rfl, rfl, rr⟩ := rows r
    have e1 : zs.map Prod.snd = (zs.map fun z => (z.2, encD z.1)).map Prod.fst := by rw [List.map_map]; rfl
    have e2 : (zs.map Prod.fst).map encD = (zs.map fun z => (z.2, encD z.1)).map Prod.snd := by rw [List.map_map, List.map_map]; rfl
    refine ⟨zs.map fun z => (z.2, encD z.1), e1, by rw [← e1, ← e2]; exact dp, by rw [← e2]; exact h1, by rw [← e2]; exact h2, fun z hz => h3 _ (by rw [e2]; exact List.mem_map_of_mem hz), rfl, ?_⟩
    have m1 : (zs.map Prod.fst).mergeSort leD = (zs.mergeSort fun x y => leD x.1 y.1).map Prod.fst := (List.map_mergeSort (f := Prod.fst) (fun _ _ _ _ => rfl)).symm
    have m2 : (zs.map fun z => (z.2, encD z.1)).mergeSort (PySem.W.dataLe false Prod.snd) = (zs.mergeSort fun x y => leD x.1 y.1).map fun z => (z.2, encD z.1) := (List.map_mergeSort (f := fun (z : D × V) => (z.2, encD z.1)) (fun _ _ _ _ => rfl)).symm
    have rl : ∀ (l : List (D × V)), (∀ z ∈ l, Rep K S z.1 z.2) → RepL K S (l.map Prod.fst) (l.map Prod.snd) := by
      intro l
      induction l with
      | nil => intro _; exact .nil
      | cons z l ih => intro h; exact .cons (h z (by simp)) (ih fun y hy => h y (by simp [hy]))
    rw [m2, List.map_map, m1]
    exact rl (zs.mergeSort fun x y => leD x.1 y.1) fun z hz => rr z (List.mem_mergeSort.mp hz)
  · cases hp
end
end Fi
end

section
set_option maxRecDepth 100000
/-! FiSet: sorted(set(texts)). Own work. -/
namespace Fi
open PySem PySem.Spec PyProof.Rows L2
def txOf (e : Int × Value) : Str := match e.2 with
  | .str x _ => x
  | _ => Str.empty
/-- a set of texts as the walk over it needs it -/
structure TxSet (w : World) (h : Heap) (a : Addr) (L : List Str) : Prop where
  ex : ∃ (ob : Obj) (rows : Array (Int × Value)) (n : Nat) (tb : SetTable), h.get? a = some ob ∧ ob.ExactSet ∧ ob.data = .set rows n tb ∧ tb.fits rows.size = true ∧ Ris tb.place.toList ∧
    (w.params.followText "set-order" = true ∨ tb.led = true) ∧ (∀ r ∈ rows.toList, ∃ x u, r = (hashStr w x, Value.str x u)) ∧ (rows.toList.map txOf).Perm L
  nd : L.Nodup
  few : L.length < scanBound
section
variable {P : Program} {w : World} {A : Around} {E : Value → Shared → Prop} {s : Shared} {a : Addr} {L : List Str}
theorem TxSet.keep {h h' : Heap} (R : TxSet w h a L) (k : ∀ o, h.get? a = some o → h'.get? a = some o) : TxSet w h' a L := by
  obtain ⟨⟨ob, rows, n, tb, h1, hr⟩, h2, h3⟩ := R
  exact ⟨⟨ob, rows, n, tb, k _ h1, hr⟩, h2, h3⟩
theorem rows_elems {l : List (Int × Value)} (g : ∀ r ∈ l, ∃ x u, r = (hashStr w x, Value.str x u)) : ElemsOf (strKind P w) l := fun r hr => by
  obtain ⟨x, u, rfl⟩ := g r hr
  exact ⟨⟨x, strKind_is P w x u, rfl⟩, rfl⟩
theorem row_is {r : Int × Value} (g : ∃ x u, r = (hashStr w x, Value.str x u)) (k : Str) : (strKind P w).is k r.2 = true ↔ txOf r = k := by
  obtain ⟨x, u, rfl⟩ := g
  constructor
  · intro z
    have z' : Value.isStrOf k (Value.str x u) = true := z
    obtain ⟨v, hv⟩ := Value.isStrOf_shape z'
    cases hv; rfl
  · intro z
    have z' : x = k := z
    subst z'
    exact strKind_is P w x u
/-- behind the last store -/
theorem txset_end {f : Bool → Sem Unit} (hf : ∀ (b : Bool) (s' : Shared) (q : Unit → Shared → Prop), q () s' → wpAny (model P w) A (f b) q E s') {ob : Obj} {rows new : Array (Int × Value)} {n : Nat} {tb tn : SetTable}
    (ho : s.heap.get? a = some ob) (hx : ob.ExactSet) (hd : ob.data = .set rows n tb) (hg : ∀ r ∈ new.toList, ∃ x u, r = (hashStr w x, Value.str x u)) (hp : (new.toList.map txOf).Perm L) (hn : L.Nodup) (hl : L.length < scanBound)
    (hfit : tn.fits new.size = true) (hris : Ris tn.place.toList) (hled : w.params.followText "set-order" = true ∨ tn.led = true) {dm : Bool} {q : Option Bool → Shared → Prop}
    (fin : ∀ h', Heap.SameBut a s.heap h' → TxSet w h' a L → q (some true) { s with heap := h' }) :
    wpAny (model P w) A (do
      storeSet a new tn
      if (!dm && tn.tooFull) = true then do
          f (relayAll tn new (SetTable.grown new.size)).2.2
          storeSet a (relayAll tn new (SetTable.grown new.size)).1 (relayAll tn new (SetTable.grown new.size)).2.1
          pure (some true)
        else pure (some true)) q E s := by
  have sz : new.size < scanBound := by
    have e := hp.length_eq
    rw [List.length_map, Array.length_toList] at e
    omega
  have put : ∀ {hh : Heap} {o' : Obj} {r0 : Array (Int × Value)} {m : Nat} {t0 : SetTable} (r1 : Array (Int × Value)) (t1 : SetTable), hh.get? a = some o' → o'.data = .set r0 m t0 → (hh.update a (Obj.putSet r1 t1)).get? a = some { o' with data := .set r1 (m + 1) t1 } := by
    intro hh o' r0 m t0 r1 t1 g1 g2
    have z := Heap.get?_update_self (Obj.putSet r1 t1) g1 (by rw [putSet_of r1 t1 g2] <;> rfl)
    rwa [putSet_of r1 t1 g2] at z
  refine wpAny_bind (wpAny_storeSet_of ho hd ?_ (fits_of_scanBound sz))
  have o1 := put new tn ho hd
  have sb := Heap.SameBut.update s.heap a (Obj.putSet new tn)
  split
  · have p2 := relayAll_perm tn new (SetTable.grown new.size)
    have f2 := relayAll_fits tn new (SetTable.grown new.size)
    have r2 := relayAll_ris tn new (SetTable.grown new.size)
    have l2 := relayAll_led tn new (SetTable.grown new.size)
    revert p2 f2 r2 l2
    generalize relayAll tn new (SetTable.grown new.size) = three
    obtain ⟨rows2, tb2, gave⟩ := three
    intro p2 f2 r2 l2
    have sz2 : rows2.size = new.size := by
      have e := p2.length_eq
      rwa [Array.length_toList, Array.length_toList] at e
    refine wpAny_bind (hf _ _ _ ?_)
    refine wpAny_bind (wpAny_storeSet_of o1 rfl ?_ (fits_of_scanBound (by rw [sz2]; exact sz)))
    refine wpAny_pure (fin _ (sb.trans (Heap.SameBut.update _ a _)) ⟨⟨_, rows2, _, tb2, put rows2 tb2 o1 rfl, hx, rfl, f2, r2, hled.imp id fun z => by rw [l2]; exact z, fun r hr => hg r (p2.mem_iff.mp hr), (p2.map txOf).trans hp⟩, hn, hl⟩)
  · exact wpAny_pure (fin _ sb ⟨⟨_, new, _, tn, o1, hx, rfl, hfit, hris, hled, hg, hp⟩, hn, hl⟩)
/-- one more text -/
theorem txset_add {k : Str} {u : Tok} {q : Bool → Shared → Prop} (R : TxSet w s.heap a L) (room : L.length + 1 < scanBound)
    (fin : ∀ b h', Heap.SameBut a s.heap h' → TxSet w h' a (if k ∈ L then L else L ++ [k]) → q b { s with heap := h' }) : wpAny (model P w) A (setAddHashed a (.str k u) ((strKind P w).hash k)) q E s := by
  obtain ⟨⟨ob, rows, n, tb, ho, hx, hd, hfit, hris, hled, hg, hp⟩, hn, hl⟩ := R
  have hk : (strKind P w).is k (Value.str k u) = true := strKind_is P w k u
  have scn : (Value.str k u).scannable = true := rfl
  have els : ElemsOf (strKind P w) rows.toList := rows_elems hg
  have sz : rows.size < scanBound := by
    have e := hp.length_eq
    rw [List.length_map, Array.length_toList] at e
    omega
  unfold setAddHashed setAddHashedIn
  refine wpAny_holding (wpAny_bind (wpAny_setState_of ho hd hfit ?_))
  dsimp only
  rw [byScan_of scn sz els]
  simp only [↓reduceIte]
  unfold setAddByScan
  refine wpAny_bind (wpAny_bind (wpAny_rule (wpAny_bind (wpAny_setScan_of hk ho hd hfit els ?_))))
  cases at_ : List.findIdx? (fun r => (strKind P w).is k r.2) rows.toList with
  | some j =>
    dsimp only
    obtain ⟨hj, pj, _⟩ := List.findIdx?_eq_some_iff_getElem.mp at_
    have inL : k ∈ L := by
      refine hp.mem_iff.mp (List.mem_map.mpr ⟨_, List.getElem_mem hj, ?_⟩)
      exact (row_is (P := P) (hg _ (List.getElem_mem hj)) k).mp pj
    refine wpAny_pure (wpAny_pure (fin _ s.heap (Heap.SameBut.refl a s.heap) ?_))
    rw [if_pos inL]
    exact ⟨⟨ob, rows, n, tb, ho, hx, hd, hfit, hris, hled, hg, hp⟩, hn, hl⟩
  | none =>
    dsimp only
    have outL : k ∉ L := fun z => by
      obtain ⟨r, hr, e⟩ := List.mem_map.mp (hp.mem_iff.mpr z)
      have no := List.findIdx?_eq_none_iff.mp at_ r hr
      rw [(row_is (P := P) (hg r hr) k).mpr e] at no
      cases no
    have gw : ∀ (b : Bool) {s' : Shared} {q' : Unit → Shared → Prop}, q' () s' → wpAny (model P w) A (match b with | true => rule "set.scan.the-table-gave-way" | false => pure ()) q' E s' :=
      fun b s' q' z => by
        cases b
        · exact wpAny_pure z
        · exact wpAny_rule z
    have p1 := layNew_perm tb rows ((strKind P w).hash k) (.str k u)
    have f1 := layNew_fits tb rows ((strKind P w).hash k) (.str k u)
    have r1 := layNew_ris tb rows ((strKind P w).hash k) (.str k u) hris
    have l1 := layNew_led tb rows ((strKind P w).hash k) (.str k u)
    revert p1 f1 r1 l1
    generalize layNew tb rows ((strKind P w).hash k) (.str k u) = four
    obtain ⟨rows1, tb1, dm, gave⟩ := four
    intro p1 f1 r1 l1
    dsimp only at p1 f1 r1 l1 ⊢
    rw [Array.toList_push] at p1
    have g1 : ∀ r ∈ rows1.toList, ∃ x u, r = (hashStr w x, Value.str x u) := fun r hr => by
      rcases List.mem_append.mp (p1.mem_iff.mp hr) with z | z
      · exact hg r z
      · exact ⟨k, u, List.mem_singleton.mp z⟩
    have q1 : (rows1.toList.map txOf).Perm (L ++ [k]) := by
      refine (p1.map txOf).trans ?_
      rw [List.map_append]
      exact List.Perm.append_right _ hp
    have n1 : (L ++ [k]).Nodup := List.nodup_append.mpr ⟨hn, by simp, fun x hx y hy e => outL (by rw [← List.mem_singleton.mp hy, ← e]; exact hx)⟩
    have led1 : w.params.followText "set-order" = true ∨ tb1.led = true := hled.imp id fun z => by rw [l1]; exact z
    have len1 : (L ++ [k]).length < scanBound := by rw [List.length_append]; exact room
    have last : ∀ h', Heap.SameBut a s.heap h' → TxSet w h' a (L ++ [k]) → q true { s with heap := h' } := fun h' sb r => fin true h' sb (by rw [if_neg outL]; exact r)
    refine wpAny_bind (gw _ ?_)
    split
    · refine wpAny_bind ?_
      rw [hashByValue_scannable 8 scn]
      refine wpAny_pure ?_
      refine txset_end ?_ ho hx hd g1 q1 n1 len1 ?_ ?_ ?_ ?_
      · intro b s' q' z; exact gw b z
      · first | (split <;> first | exact f1 | exact SetTable.fits_plain_off f1) | exact f1
      · first | (split <;> exact r1) | exact r1
      · first | (split <;> exact led1) | exact led1
      · intro h' sb r; dsimp only; exact wpAny_pure (last h' sb r)
    · refine wpAny_bind (wpAny_pure ?_)
      simp only [↓reduceIte]
      refine txset_end ?_ ho hx hd g1 q1 n1 len1 f1 r1 led1 ?_
      · intro b s' q' z; exact gw b z
      · intro h' sb r; dsimp only; exact wpAny_pure (last h' sb r)
end
end Fi
end

section
set_option maxRecDepth 100000
set_option maxHeartbeats 4000000
/-! FiSetB: set(texts) made, sorted. Own work. -/
namespace Fi
open PySem PySem.Spec PyProof.Rows L2
abbrev setO (w : World) : Obj := { cls := .type "set", dict := none, data := .set #[] 0 (.fresh 0 0 (!w.params.followText "set-order")) }
/-- a text more, if it is new -/
def putTx (L : List Str) (k : Str) : List Str := if k ∈ L then L else L ++ [k]
def allTx (xs : List Str) : List Str := xs.foldl putTx []
theorem allTx_take {xs : List Str} {i : Nat} {k : Str} (h : xs[i]? = some k) : allTx (xs.take (i + 1)) = putTx (allTx (xs.take i)) k := by
  unfold allTx
  rw [List.take_add_one, h, List.foldl_append] <;> rfl
theorem foldl_putTx_len : ∀ (xs L : List Str), (xs.foldl putTx L).length ≤ L.length + xs.length
  | [], L => Nat.le_refl _
  | x :: xs, L => by
    have z := foldl_putTx_len xs (putTx L x)
    have y : (putTx L x).length ≤ L.length + 1 := by
      unfold putTx
      split
      · omega
      · rw [List.length_append]; exact Nat.le_refl _
    simp only [List.foldl_cons, List.length_cons]
    omega
theorem allTx_len (xs : List Str) : (allTx xs).length ≤ xs.length := by
  exact Nat.le_trans (foldl_putTx_len xs []) (by simp)
section
variable {P : Program} {w : World} {A : Around} {E : Value → Shared → Prop} {s : Shared}
theorem txset_new {h : Heap} {a : Addr} (ho : h.get? a = some (setO w)) : TxSet w h a [] :=
  ⟨⟨_, #[], 0, _, ho, ⟨rfl, rfl, rfl⟩, rfl, rfl, List.Pairwise.nil, by
    show _ ∨ (!w.params.followText "set-order") = true
    cases w.params.followText "set-order" <;> simp, fun r hr => absurd hr (by simp), List.Perm.refl _⟩, List.nodup_nil, (by decide)⟩
theorem txset_loop {I : Addr} {fp wr : List Addr} {G : Array GenState → Array GenState → Prop} {n : Nat} {Pv : Nat → Value → Prop} {St : Nat → Shared → Prop} {R : Result → Shared → Prop}
    (W : WalksS P w A.in1 I fp wr G n Pv St) (D : Addr) (out : D ∉ fp) (xs : List Str) (hn : n = xs.length) (few : xs.length + 1 < scanBound) (hv : ∀ i v, Pv i v → ∃ k u, xs[i]? = some k ∧ v = .str k u) :
    ∀ (m i : Nat) (s : Shared), n - i = m → i ≤ n → St i s → TxSet w s.heap D (allTx (xs.take i)) → (∀ s', Moved (D :: wr) G s s' → TxSet w s'.heap D (allTx xs) → R (.ok (.ret .none)) s') →
      codeAny (model P w) A (.builtin "set.update.loop" ⟨[.ref D, .ref I], []⟩) R s := by
  have nw : D ∉ wr := fun z => out (W.sub _ z)
  have up : ∀ b ∈ wr, b ∈ D :: wr := fun b z => List.mem_cons_of_mem _ z
  intro m
  induction m with
  | zero =>
    intro i s e le st T fin
    obtain rfl : i = n := by omega
    apply codeAny_builtin (PyProof.Rows.F.entry_set_update_loop)
    rw [Around.under_plainId F.plain_set_update_loop (_)]
    show wpAny _ (A.in1) (pyNext (.ref I) >>= _) _ _ s
    refine wpAny_bind (W.done s _ _ st fun s' mv => ?_)
    refine wpAny_pure (fin s' (mv.mono up) ?_)
    rw [hn, List.take_length] at T
    exact T.keep fun o q => mv.heap D o nw q
  | succ m ih =>
    intro i s e le st T fin
    have lt : i < n := by omega
    apply codeAny_builtin (PyProof.Rows.F.entry_set_update_loop)
    rw [Around.under_plainId F.plain_set_update_loop (_)]
    show wpAny _ (A.in1) (pyNext (.ref I) >>= _) _ _ s
    refine wpAny_bind (W.item i s _ _ lt st fun v s' pv st' mv => ?_)
    obtain ⟨k, u, hk, rfl⟩ := hv i v pv
    have T' : TxSet w s'.heap D (allTx (xs.take i)) := T.keep fun o q => mv.heap D o nw q
    show wpAny _ A.in1 (holding [Value.str k u] (setAdd D (.str k u)) >>= _) _ _ s'
    refine wpAny_bind (wpAny_holding ?_)
    unfold setAdd
    refine wpAny_holding (wpAny_bind ((strKind P w).pyHash (k := k) (strKind_is P w k u) ?_))
    have room : (allTx (xs.take i)).length + 1 < scanBound := by
      have z := allTx_len (xs.take i)
      rw [List.length_take] at z
      omega
    refine txset_add (s := { s' with toks := s'.toks + 1 }) T' room fun b h' sb T2 => ?_
    have T3 : TxSet w h' D (allTx (xs.take (i + 1))) := by rw [allTx_take hk]; exact T2
    refine wpAny_pure ⟨plainId_quiet F.plain_set_update_loop _, ih (i + 1) _ (by omega) lt (W.frame _ s' _ _ st' (Nat.le_succ _) fun c hc o q => ?_) T3 fun s2 mv2 T4 => ?_⟩
    · rw [sb.2 c (fun z : c = D => out (by rw [← z]; exact hc))]; exact q
    · refine fin s2 (Moved.trans W.gtrans ((mv.mono up).then_heap (Nat.le_succ _) fun c o hc q => ?_) mv2) T4
      rw [sb.2 c (fun z : c = D => hc (by rw [z]; exact List.mem_cons_self))]; exact q
end
end Fi
end

section
set_option maxRecDepth 100000
set_option maxHeartbeats 4000000
/-! FiSetC: set(texts) called. Own work. -/
namespace Fi
open PySem PySem.Spec PyProof.Rows L2
section
variable {P : Program} {w : World} {A : Around} {E : Value → Shared → Prop} {s : Shared}
theorem txset_call {l : Addr} {items : Array Value} {xs : List Str} {q : Value → Shared → Prop} (hh : A.handled = none) (hl : s.heap.IsList l items) (hi : StrsAre items.toList xs) (few : xs.length + 1 < scanBound)
    (fin : ∀ h' tk, TxSet w h' s.heap.objs.size (allTx xs) → (∀ b o, s.heap.get? b = some o → h'.get? b = some o) → q (.ref s.heap.objs.size) { s with heap := h', toks := tk }) :
    wpAny (model P w) A (call (.type "set") [.ref l]) q E s := by
  have size : items.size = xs.length := by rw [← StrsAre.len_eq hi, Array.length_toList]
  have vals : ∀ (i : Nat) (v : Value), items[i]? = some v → ∃ k u, xs[i]? = some k ∧ v = .str k u := by
    intro i v hv
    have hlt : i < xs.length := by
      rw [← size]
      obtain ⟨z, _⟩ := Array.getElem?_eq_some_iff.mp hv
      exact z
    obtain ⟨u, e⟩ := SS.strs_at hi i v (by rw [Array.getElem?_toList]; exact hv)
    refine ⟨xs.getD i Str.empty, u, ?_, e⟩
    rw [List.getD_eq_getElem?_getD, List.getElem?_eq_getElem hlt] <;> rfl
  obtain ⟨cl, rest, mro⟩ := F.called_set.mro
  have made := F.called_set.made
  have sub := F.called_set.sub
  apply wpAny_call
  apply codeAny_of_tree
  show wpAny _ _ (callAny (.type "set") _) (_) _ _
  refine wpAny_pure ⟨Code.quiet_builtin (_) (by decide +kernel), codeAny_builtin F.entry_type_call ?_⟩
  rw [Around.under_plain (weight_type_call_type "set" [.ref l] ([])) rfl]
  have c1 := F.called_set.notType
  have c2 := F.called_set.canCreate
  have c3 := F.typeCall_set_1 (.ref l)
  repeat (any_goals (first | assumption | wp_step))
  refine codeAny_mono (code_set_led1 (.ref l) (E := E) (Q₁ := fun x s1 => x = .ref s.heap.objs.size ∧ s1 = { s with heap := s.heap.push (setO w) }) ⟨rfl, rfl⟩) fun r s1 hr => ?_
  cases r with
  | error e => exact hr
  | ok f =>
    cases f with
    | ret x =>
      obtain ⟨rfl, rfl⟩ := hr
      have at0 : (s.heap.push (setO w)).get? s.heap.objs.size = some (setO w) := Heap.get?_push_size _ rfl
      have ty0 : Shared.TypeIs { s with heap := s.heap.push (setO w) } (.ref s.heap.objs.size) "set" := ⟨_, at0, rfl⟩
      have i1 := F.called_set.init.lookup
      have i2 := F.called_set.init.bind (.ref s.heap.objs.size)
      repeat (any_goals (first | assumption | wp_step))
      refine codeAny_mono (codeAny_call_builtin (R := wants (fun r s2 => r = .none ∧ ∃ h' tk, s2 = { s with heap := h', toks := tk } ∧ TxSet w h' s.heap.objs.size (allTx xs) ∧ (∀ b o, s.heap.get? b = some o → h'.get? b = some o)) E)
        F.called_set.init.plain F.entry_set_init (check_set_init_1 ty0 ?_)) fun r2 s2 hr2 => ?_
      · obtain ⟨⟨oc, od, ot, os⟩, ol, hc, n, hd⟩ := hl
        simp only at hc hd
        subst hc; subst hd
        have ol1 : (s.heap.push (setO w)).get? l = some { cls := .type "list", dict := od, data := .seq items n, slots := os } := Heap.get?_push_of_some _ ol
        have n1 := F.sub_list_set
        have n2 := F.sub_list_frozenset
        have n3 : (Value.type "list" == Value.type "dict") = false := rfl
        have il : (s.heap.push (setO w)).IsList l items := ⟨_, ol1, rfl, n, rfl⟩
        unfold Builtin.«set.__init__» noKeywords Builtin.Frozenset.updateFrom
        generalize hI : pyIter = I0
        wp_walk
        subst hI
        refine wpAny_pyIter_list il ?_
        refine wpAny_bind (wpAny_runValue (?_))
        have ls : l < s.heap.objs.size := Heap.lt_size ol
        have h3 : A.in1.in1.in1.handled = none := by simp only [Around.in1_handled, hh]
        have ps : (s.heap.push (setO w)).objs.size = s.heap.objs.size + 1 := Heap.size_push ..
        have ne : l ≠ (s.heap.push (setO w)).objs.size := by rw [ps]; exact Nat.ne_of_lt (Nat.lt_succ_of_lt ls)
        have nin : s.heap.objs.size ∉ [(s.heap.push (setO w)).objs.size, l] := by
          rw [ps]
          simp only [List.mem_cons, List.not_mem_nil, or_false, not_or]
          exact ⟨Nat.ne_of_lt (Nat.lt_succ_self (s.heap.objs.size)), Nat.ne_of_gt ls⟩
        refine txset_loop ((Walks.list h3 _ l ne items).toS) s.heap.objs.size nin xs size few vals (items.size - 0) 0 _ (by omega) (Nat.zero_le _) ⟨⟨_, Heap.get?_push_size _ rfl, rfl, rfl⟩, (il.push _)⟩ ?start ?done
        case start => exact txset_new (Heap.get?_push_of_some _ at0)
        case done =>
          intro s' mv T
          obtain ⟨h', g2, d2, t2, o2⟩ := s'
          have eg : g2 = s.gens := mv.gens
          have ed : d2 = s.drawn := mv.drawn
          have eo : o2 = s.os := mv.os
          subst eg; subst ed; subst eo
          apply wpAny_pure
          show wpAny _ _ (ret Value.none) (_) _ _
          refine wpAny_pure ⟨rfl, h', t2, rfl, T, fun b o e => ?_⟩
          have lt := Heap.lt_size e
          refine mv.heap b o ?_ (Heap.get?_push_of_some _ (Heap.get?_push_of_some _ e))
          rw [ps]
          simp only [List.mem_cons, List.not_mem_nil, or_false, not_or]
          exact ⟨Nat.ne_of_lt lt, Nat.ne_of_lt (Nat.lt_succ_of_lt lt)⟩
      · cases r2 with
        | error e => exact hr2
        | ok f2 =>
          cases f2 with
          | ret r =>
            obtain ⟨rfl, h', tk, rfl, T, k⟩ := hr2
            repeat (any_goals (first | assumption | wp_step))
            exact fin _ _ T k
          | _ => exact hr2.elim
    | _ => exact hr.elim
end
end Fi
end

section
set_option maxRecDepth 100000
/-! FiSetD: sorted of whatever can be gathered; sorted(set(texts)). Own work. -/
namespace Fi
open PySem PySem.Spec PyProof.Rows L2
open PySem.W (sortingHeap sortingHeap_old EachIs AllAlike Sortable dataLe dataKind sortVals SortsAt list_sort_vals sortVals_length sortVals_data each_map bound_map)
section
variable {P : Program} {w : World} {A : Around} {E : Value → Shared → Prop} {s : Shared}
/-- what is known of things that were gathered to be sorted -/
structure Gath {β : Type} (s : Shared) (A : Around) (R : Value → β → Prop) (enc : β → PyData) (vs : List Value) (s1 : Shared) (bs : List β) : Prop where
  keep : ∀ b o, s.heap.get? b = some o → s1.heap.get? b = some o
  gens : s1.gens = s.gens
  os : s1.os = s.os
  rel : EachIs R vs bs
  reads : EachIs (fun v b => ∃ as, Reads s1.heap v (enc b) as) vs bs
  alike : AllAlike (bs.map enc)
  sortable : Sortable (bs.map enc)
  len : bs.length ≤ sizeLine
  deep : ∀ b, b ∈ bs → A.units + 2 + (enc b).depth < cLine
theorem sorted_got {β : Type} {enc : β → PyData} {R : Value → β → Prop} {x : Value} {q : Value → Shared → Prop} (hc : wpAny (model P w) A.in1 (collect x) (fun vs s1 => ∃ bs, Gath s A R enc vs s1 bs ∧
      ∀ out s2 p c, (∀ b o, s1.heap.get? b = some o → s2.heap.get? b = some o) → s2.gens = s1.gens → s2.os = s1.os → s1.heap.objs.size ≤ p → s2.heap.get? p = some (seqObj "list" (List.toArray out) c) → EachIs R out (bs.mergeSort (dataLe false enc)) → q (.ref p) s2) E s) :
    wpAny (model P w) A (call (.builtin "sorted") [x]) q E s := by
  refine Calls.call_function_entry kind_sorted plain_sorted entry_sorted (args_sorted1 x) ?_
  unfold Builtin.«sorted»
  refine wpAny_bind (m := checkCount "sorted" 1 1 (_)) (wpAny_pure ?_)
  refine wpAny_bind (wpAny_mono hc (fun vs s1 ⟨bs, g, fin⟩ => ?_) fun _ _ z => z)
  have len := g.rel.length
  refine wpAny_bind (wpAny_newList ?_ (by rw [len]; exact g.len))
  have at1 : (s1.heap.push (seqObj "list" vs.toArray 0)).get? s1.heap.objs.size = some (seqObj "list" vs.toArray 0) := Heap.get?_push_size (_) rfl
  have old : ∀ b o, s1.heap.get? b = some o → (sortingHeap (s1.heap.push (seqObj "list" vs.toArray 0)) s1.heap.objs.size vs).get? b = some o := fun b o e => by
    have lt := Heap.lt_size e
    exact sortingHeap_old (Nat.ne_of_lt lt) (Heap.get?_push_of_some _ e)
  have reads : EachIs (fun v b => ∃ as, Reads (sortingHeap (s1.heap.push (seqObj "list" vs.toArray 0)) s1.heap.objs.size vs) v (enc b) as) vs bs := g.reads.mono fun _ _ ⟨as, r⟩ => ⟨as, PyProof.Rows.Reads.keeps old r⟩
  refine wpAny_bind (wpAny_holding (wpAny_call_entry slot_list_sort ⟨_, at1, rfl⟩ entry_list_sort (list_sort_vals (κ := dataKind (sortingHeap (s1.heap.push (seqObj "list" vs.toArray 0)) s1.heap.objs.size vs) (bs.map enc)) at1
    (SortsAt.data (s := { s1 with heap := sortingHeap (s1.heap.push (seqObj "list" vs.toArray 0)) s1.heap.objs.size vs }) (each_map (R := fun v d => ∃ as, Reads (sortingHeap (s1.heap.push (seqObj "list" vs.toArray 0)) s1.heap.objs.size vs) v d as) enc reads) g.alike g.sortable (bound_map fun b hb => g.deep b hb))
    (by rw [len]; exact g.len) ⟨.none, rfl, ?_⟩) (args_list_sort _)))
  have out := sortVals_data false g.rel reads g.alike
  obtain ⟨c, hp⟩ := sortedHeap_at (vs := vs) (out := (sortVals (dataKind (sortingHeap (s1.heap.push (seqObj "list" vs.toArray 0)) s1.heap.objs.size vs) (bs.map enc)) false vs vs).toArray) at1
  refine wpAny_pure ⟨_, rfl, fin _ _ s1.heap.objs.size c (fun b o e1 => ?_) rfl rfl (Nat.le_refl _) hp out⟩
  have lt := Heap.lt_size e1
  show (sortedHeap (s1.heap.push (seqObj "list" vs.toArray 0)) s1.heap.objs.size vs _).get? b = some o
  rw [sortedHeap_old (Nat.ne_of_lt lt) (by rw [Heap.size_push]; exact Nat.lt_succ_of_lt lt)]
  exact Heap.get?_push_of_some (_) e1
/-- texts in order -/
def leS (x y : Str) : Bool := decide (x.cps.toList ≤ y.cps.toList)
theorem leS_data : dataLe false (fun x : Str => PyData.str x) = leS := PySem.W.dataLe_str fun x => x
theorem leS_trans : ∀ x y z : Str, leS x y = true → leS y z = true → leS x z = true := fun x y z h1 h2 => by
  unfold leS at *
  simp only [decide_eq_true_eq] at *
  exact List.le_trans h1 h2
theorem leS_total : ∀ x y : Str, (leS x y || leS y x) = true := fun x y => by
  unfold leS
  simp only [Bool.or_eq_true, decide_eq_true_eq]
  exact List.le_total _ _
theorem leS_anti : ∀ x y : Str, leS x y = true → leS y x = true → x = y := fun x y h1 h2 => by
  unfold leS at *
  simp only [decide_eq_true_eq] at *
  exact PySem.W.str_of_cps (List.le_antisymm h1 h2)
theorem sortS_perm {l m : List Str} (p : l.Perm m) : l.mergeSort leS = m.mergeSort leS := by
  refine List.Perm.eq_of_pairwise (le := fun x y => leS x y = true) (fun x y _ _ h1 h2 => leS_anti x y h1 h2) (List.pairwise_mergeSort leS_trans leS_total l) (List.pairwise_mergeSort leS_trans leS_total m) ?_
  exact (List.mergeSort_perm l leS).trans (p.trans (List.mergeSort_perm m leS).symm)
theorem txset_sorted {a : Addr} {L : List Str} {q : Value → Shared → Prop} (R : TxSet w s.heap a L) (hh : A.handled = none) (hu : A.units + 2 < cLine)
    (fin : ∀ out s2 p c, (∀ b o, s.heap.get? b = some o → s2.heap.get? b = some o) → s2.gens = s.gens → s2.os = s.os → s.heap.objs.size ≤ p → s2.heap.get? p = some (seqObj "list" (List.toArray out) c) → StrsAre out (L.mergeSort leS) → q (.ref p) s2) :
    wpAny (model P w) A (call (.builtin "sorted") [.ref a]) q E s := by
  obtain ⟨⟨ob, rows, n, tb, ho, hx, hd, hfit, hris, hled, hg, hp⟩, hn, hl⟩ := R
  have sz : rows.size < scanBound := by
    have e := hp.length_eq
    rw [List.length_map, Array.length_toList] at e
    omega
  refine sorted_got (β := Str) (enc := fun x => PyData.str x) (R := fun v x => ∃ u, v = .str x u) (collect_set (A := A.in1) hh ⟨ob, ho, hx.1, hd⟩ hfit sz hris hled fun s1 vs keep size gens os pm => ?_)
  have str : ∀ v ∈ vs, ∃ x u, v = Value.str x u := fun v hv => by
    obtain ⟨r, hr, e⟩ := List.mem_map.mp (pm.mem_iff.mp hv)
    obtain ⟨x, u, e2⟩ := hg r hr
    exact ⟨x, u, by rw [← e, e2]⟩
  have each : ∀ l : List Value, (∀ v ∈ l, ∃ x u, v = Value.str x u) → EachIs (fun v x => ∃ u, v = Value.str x u) l (l.map fun v => txOf (0, v)) := by
    intro l
    induction l with
    | nil => intro _; exact .nil
    | cons v l ih =>
      intro h
      obtain ⟨x, u, e⟩ := h v (by simp)
      exact .cons ⟨u, by subst e; rfl⟩ (ih fun y hy => h y (by simp [hy]))
  have ev := each vs str
  have pl : (vs.map fun v => txOf (0, v)).Perm L := by
    refine (pm.map _).trans ?_
    rw [List.map_map]
    refine List.Perm.trans (List.Perm.of_eq (List.map_congr_left fun r hr => ?_)) hp
    obtain ⟨x, u, e2⟩ := hg r hr
    rw [e2]; rfl
  refine ⟨vs.map fun v => txOf (0, v), ⟨keep, gens, os, ev, ev.mono fun v x ⟨u, e⟩ => ⟨[], by rw [e]; exact Reads.str x u⟩, ?_, ?_, ?_, ?_⟩, fun out s2 p c k g o hp' at_ eo => fin out s2 p c (fun b u e => k b u (keep b u e)) (g.trans gens) (o.trans os) (Nat.le_trans size hp') at_ ?_⟩
  · exact AllAlike.of fun x y => by simp [PySem.W.alike]
  · exact Sortable.others fun x => ⟨fun e => (nomatch e), fun _ e => (nomatch e)⟩
  · rw [pl.length_eq]; exact fits_of_scanBound hl
  · intro x hx
    show A.units + 2 + (PyData.str x).depth < cLine
    simp only [PyData.depth]
    omega
  · rw [leS_data, sortS_perm pl] at eo
    have conv : ∀ {o : List Value} {l : List Str}, EachIs (fun v x => ∃ u, v = Value.str x u) o l → StrsAre o l := by
      intro o l
      revert o
      induction l with
      | nil => intro o h; cases h; exact .nil
      | cons x l ih =>
        intro o h
        cases h with
        | cons h1 h2 =>
          obtain ⟨u, rfl⟩ := h1
          exact .cons x u (ih h2)
    exact conv eo
end
end Fi
end

section
set_option maxRecDepth 100000
/-! FiSetE: sorted(set(texts)) as a rule. Own work. -/
namespace Fi
open PySem PySem.Spec PyProof.Rows L2
variable [J : HW]
def tSSet (K : PySem.W.Frag) (ta : TE) : TE := fun σ H Q => ta σ H fun x H1 => ∃ (l : Addr) (xs : List Str), x = V.ref l ∧ SqL K H1 l (xs.map V.str) ∧ xs.length + 1 < scanBound ∧ ∀ p, H1 p = none → Q (.ref p) (upd H1 p (.lst (((allTx xs).mergeSort leS).map V.str)))
theorem vals_strsAre : ∀ {xs : List Str} {us : List Value}, Vals (xs.map V.str) us → StrsAre us xs
  | [], _, .nil => .nil
  | x :: _, _, .cons h r => by
    obtain ⟨u, rfl⟩ := h
    exact .cons x u (vals_strsAre r)
theorem strsAre_vals : ∀ {xs : List Str} {us : List Value}, StrsAre us xs → Vals (xs.map V.str) us
  | _, _, .nil => .nil
  | _, _, .cons x u h => .cons ⟨u, rfl⟩ (strsAre_vals h)
section
variable {X : Cx}
theorem pe_sset {a : Expr} {ta : TE} {p p2 q pos : Pos} (hc : X.calm = true) (hu : X.A.units + 64 < cLine) (hg : Gl X "sorted") (hm : X.mg "sorted" = none) (hg2 : Gl X "set") (hm2 : X.mg "set" = none) (ha : PE X a ta)
    (na : starEach [a] X.env = (false, eval a X.env) :: starEach [] X.env) : PE X (.Call (.Name "sorted" p) [.Call (.Name "set" p2) [a] [] q] [] pos) (tSSet X.K ta) := by
  refine ⟨fun pins s σ H Q I h => ?_⟩
  refine Call_ (ld_blt I hg hm (show bootBuiltins "sorted" = some (.builtin "sorted") by decide +kernel) ?_)
  refine PyProof.Rows.callWith_builtin1 (PyProof.Rows.args_cons ?_ rfl) rfl rfl
  refine Call_ (ld_blt I hg2 hm2 PyProof.Rows.boot_set (?_))
  refine PyProof.Rows.callWith_type1 (PyProof.Rows.args_cons (thn (ha.run pins s σ H _ I h) fun v s1 ⟨x, H1, I1, r1, q1⟩ => PyProof.Rows.args_nil (?_)) na) na rfl
  obtain ⟨l, xs, rfl, hl, few, q1⟩ := q1
  cases r1
  obtain ⟨its, rv, pl, hz⟩ := I1.list hl
  refine txset_call (I1.ok.hd hc) pl.isList (by simpa using vals_strsAre rv) few fun h' tk T keep => ?_
  refine PyProof.Rows.args_nil (?_)
  refine txset_sorted (s := { s1 with heap := h', toks := tk }) T (I1.ok.hd hc) (by omega) fun out s2 p c keep2 hg' ho' hp at_ so => ?_
  have I2 : Inv X pins σ H1 { s1 with heap := h', toks := tk } := I1.kept fun b o e => keep b o e
  have hn : H1 p = none := I2.hok.fresh hp
  have few2 : ((allTx xs).mergeSort leS).length ≤ sizeLine := by
    rw [List.length_mergeSort]
    have z := allTx_len xs
    exact fits_of_scanBound (by omega)
  have J : Inv X pins σ (upd H1 p (.lst (((allTx xs).mergeSort leS).map V.str))) { s1 with heap := s2.heap, gens := s2.gens, drawn := s2.drawn, toks := s2.toks } :=
    I1.call (ch := []) (Un.laid (fun b o e => keep2 b o (keep b o e)) (by
        have := I1.hok
        exact Nat.le_trans (by
          have z : s1.heap.objs.size ≤ h'.objs.size := by
            obtain ⟨⟨ob, _, _, _, at0, _⟩, _⟩ := T
            exact Nat.le_of_lt (Heap.lt_size at0)
          exact z) hp) hn) (I2.hok.laid keep2 hp ⟨by rw [List.length_map]; exact few2, out, c, strsAre_vals so, at_⟩) (by rw [hg']; exact I1.bare) (fun _ z => nomatch z)
  have e : s2 = { s1 with heap := s2.heap, gens := s2.gens, drawn := s2.drawn, toks := s2.toks } := by
    cases s2
    cases s1
    simp only at ho'
    cases ho'
    rfl
  rw [e]
  exact ⟨.ref p, _, J, rfl, q1 p hn⟩
end
end Fi
end

section
set_option maxRecDepth 100000
/-! FiSortT: tuples sorted. Own work. -/
namespace Fi
open PySem PySem.Spec PyProof.Rows L2
open PySem.W (EachIs AllAlike Sortable)
variable [J : HW]
section
variable {X : Cx}
/-- a list laid by a call that leaves all else as it was -/
theorem inv_laid {pins : List (Addr × Obj)} {σ : L2.St} {H : Hp} {s s2 : Shared} {p : Addr} {vs : List V} {out : List Value} {c : Nat} (I : Inv X pins σ H s) (keep : ∀ b o, s.heap.get? b = some o → s2.heap.get? b = some o) (hg : s2.gens = s.gens) (ho : s2.os = s.os)
    (hp : s.heap.objs.size ≤ p) (at_ : s2.heap.get? p = some (seqObj "list" (List.toArray out) c)) (hv : Vals vs out) (hl : vs.length ≤ sizeLine) : H p = none ∧ Inv X pins σ (upd H p (.lst vs)) s2 := by
  have hn : H p = none := I.hok.fresh hp
  have J : Inv X pins σ (upd H p (.lst vs)) { s with heap := s2.heap, gens := s2.gens, drawn := s2.drawn, toks := s2.toks } :=
    I.call (ch := []) (Un.laid keep hp hn) (I.hok.laid keep hp ⟨hl, out, c, hv, at_⟩) (by rw [hg]; exact I.bare) (fun _ z => nomatch z)
  have e : s2 = { s with heap := s2.heap, gens := s2.gens, drawn := s2.drawn, toks := s2.toks } := by
    cases s2
    cases s
    simp only at ho
    cases ho
    rfl
  rw [e]
  exact ⟨hn, J⟩
/-- sorted(xs): xs a tuple that reads as data that can be sorted -/
def rSortT (K : PySem.W.Frag) : List V → Hp → VK → Prop := fun vs H Q => ∃ (a : Addr) (zs : List (V × PyData)), vs = [V.ref a] ∧ SqT K H a (zs.map Prod.fst) ∧ DpAll K H (zs.map Prod.fst) (zs.map Prod.snd) ∧
  AllAlike (zs.map Prod.snd) ∧ Sortable (zs.map Prod.snd) ∧ (∀ z ∈ zs, z.2.depth ≤ 64) ∧
  ∀ p, H p = none → Q (.ref p) (upd H p (.lst ((zs.mergeSort (PySem.W.dataLe false Prod.snd)).map Prod.fst)))
theorem cr_sortT_ (hu : X.A.units + 67 < cLine) : CallR X (.builtin "sorted") (rSortT X.K) := by
  intro pins s σ H vs us Q I r h
  obtain ⟨a, zs, rfl, hl, hd, hal, hs, hdep, q⟩ := h
  rw [Vals.ref1 r]
  obtain ⟨its, rv, pl, hz⟩ := I.tuple hl
  rw [List.length_map] at hz
  have hsz : its.length = zs.length := by have := rv.length; rw [List.length_map] at this; exact this.symm
  obtain ⟨o, ho, hc, n, hdt⟩ := pl
  refine sorted_got (β := V × PyData) (enc := Prod.snd) (R := fun u z => RelV z.1 u) (wpAny_collect_seq a (.inr rfl) ho hc hdt (fun h' keep => ?_) (by rw [List.size_toArray, hsz]; exact hz))
  have er := each_reads I rv hd
  have I1 : Inv X pins σ H { s with heap := h' } := I.kept (t' := s.toks) keep
  refine ⟨zs, ⟨keep, rfl, rfl, ?_, ?_, hal, hs, hz, fun z hz => by have := hdep z hz; omega⟩, fun out s2 p c keep2 hg ho2 hp at_ eo => ?_⟩
  · exact each_of_vals rv
  · exact er.mono fun _ _ ⟨as, r⟩ => ⟨as, PyProof.Rows.Reads.keeps keep r⟩
  · have hz2 : ((zs.mergeSort (PySem.W.dataLe false Prod.snd)).map Prod.fst).length ≤ sizeLine := by rw [List.length_map, List.length_mergeSort]; exact hz
    obtain ⟨hn, J⟩ := inv_laid I1 keep2 hg ho2 hp at_ (vals_of_each eo) hz2
    exact ⟨.ref p, _, J, rfl, q p hn⟩
end
end Fi
end

section
set_option maxRecDepth 100000
/-! FiSortK: the keys of a dict sorted. Own work. -/
namespace Fi
open PySem PySem.Spec PyProof.Rows L2
open PySem.W (EachIs AllAlike Sortable)
variable [J : HW]
section
variable {X : Cx}
/-- the keys of the dict at a -/
def KeysAt (hs : NestedKey → Int) (H : Hp) (a : Addr) (ks : List V) : Prop :=
  (∃ es : List (Str × V), H a = some (.dK (es.map fun e => (.inr e.1, e.2))) ∧ ks = es.map fun e => V.str e.1) ∨ ∃ (b : Addr) (xs : List (NestedKey × Addr × Value)), H a = some (NDict hs b xs) ∧ ks = xs.map fun x => V.ref x.2.1
theorem ndict_addr0 {P : Program} {w : World} {H : Hp} {h : Heap} {a b : Addr} {hs : NestedKey → Int} {xs : List (NestedKey × Addr × Value)} (ok : ObjOk P w H h a (NDict hs b xs)) : b = a := by
  obtain ⟨φ, ⟨o, ho⟩, st⟩ := ok
  by_cases e : b = a
  · exact e
  exfalso
  obtain ⟨_, _, _, _, o', es, ep, hg, _, hd, _⟩ := st h (h.update b fun _ => { cls := .none, data := .fields #[] }) φ fun o q => (Heap.get?_update_other _ _ (fun z => e z)).trans q
  obtain ⟨_, _, _, _, o2, es2, ep2, hg2, _⟩ := φ
  rw [Heap.get?_update_self _ hg2 rfl] at hg
  cases hg
  cases hd
theorem keyIs_txt {x : Str} {v : Value} (h : keyIs (.inr x) v = true) : RelV (.str x) v := by
  have h : Value.isStrOf x v = true := h
  obtain ⟨t, rfl⟩ := Value.isStrOf_shape h
  exact ⟨t, rfl⟩
theorem raw_keys {pins : List (Addr × Obj)} {σ : L2.St} {H : Hp} {s : Shared} {a : Addr} {ks : List V} (I : Inv X pins σ H s) (h : KeysAt J.hs H a ks) : ∃ es ep, s.heap.DictRaw a es ep ∧ (a == sysModules) = false ∧ Vals ks (es.toList.map (·.key)) ∧ ks.length ≤ sizeLine := by
  rcases h with ⟨es, ha, rfl⟩ | ⟨b, xs, ha, rfl⟩
  · obtain ⟨hz, hm, vs, kv, o, es', ep, ho, hc, hd, _, hp, _⟩ := I.hok a _ ha
    refine ⟨es', ep, ⟨o, ho, hc, hd⟩, hm, ?_, by simpa using hz⟩
    have key : ∀ (es : List (Str × V)) (vs : List (Key × Value)) (l : List DictEntry), KV (es.map fun e => (Sum.inr e.1, e.2)) vs → Pairs (mixKind X.prog X.w) l vs → Vals (es.map fun e => V.str e.1) (l.map (·.key)) := by
      intro es
      induction es with
      | nil => intro vs l kv hp; cases kv; cases hp; exact .nil
      | cons e es ih =>
        intro vs l kv hp
        cases kv with
        | cons r1 r2 =>
          cases hp with
          | cons h1 h2 h3 =>
            refine .cons ?_ (ih _ _ r2 h3)
            rw [← r1.1] at h1
            exact keyIs_txt h1
    exact key es vs _ kv hp
  · have ok := I.hok a _ ha
    have e := ndict_addr0 ok
    subst e
    obtain ⟨⟨hz, hm, _, _, o, es, ep, ho, hc, hd, he⟩, _⟩ := ok
    refine ⟨es, ep, ⟨o, ho, hc, hd⟩, hm, ?_, by simpa using hz⟩
    rw [he]
    have key : ∀ xs : List (NestedKey × Addr × Value), Vals (xs.map fun x => V.ref x.2.1) ((xs.map fun x => (⟨J.hs x.1, .ref x.2.1, x.2.2⟩ : DictEntry)).map (·.key)) := by
      intro xs
      induction xs with
      | nil => exact .nil
      | cons x xs ih => exact .cons rfl ih
    exact key xs
/-- sorted(d): d a dict whose keys read as data that can be sorted -/
def rSortK (K : PySem.W.Frag) (hs : NestedKey → Int) : List V → Hp → VK → Prop := fun vs H Q => ∃ (a : Addr) (zs : List (V × PyData)), vs = [V.ref a] ∧ KeysAt hs H a (zs.map Prod.fst) ∧ DpAll K H (zs.map Prod.fst) (zs.map Prod.snd) ∧
  AllAlike (zs.map Prod.snd) ∧ Sortable (zs.map Prod.snd) ∧ (∀ z ∈ zs, z.2.depth ≤ 64) ∧
  ∀ p, H p = none → Q (.ref p) (upd H p (.lst ((zs.mergeSort (PySem.W.dataLe false Prod.snd)).map Prod.fst)))
theorem cr_sortK (hc : X.calm = true) (hu : X.A.units + 67 < cLine) : CallR X (.builtin "sorted") (rSortK X.K J.hs) := by
  intro pins s σ H vs us Q I r h
  obtain ⟨a, zs, rfl, hl, hd, hal, hs, hdep, q⟩ := h
  rw [Vals.ref1 r]
  obtain ⟨es, ep, raw, hm, rv, hz⟩ := raw_keys I hl
  rw [List.length_map] at hz
  have hn : es.size = zs.length := by have := rv.length; simp at this; omega
  refine sorted_got (β := V × PyData) (enc := Prod.snd) (R := fun u z => RelV z.1 u) (PySem.W.kdu_collect (KdlSrc.rawDict (es := es) (ep := ep) hm) (I.ok.hd hc) raw (by omega) fun h' tk acc keep items => ?_)
  have eacc : acc.toList = es.toList.map (·.key) := by
    refine List.ext_getElem? fun i => ?_
    rw [Array.getElem?_toList, List.getElem?_map, Array.getElem?_toList]
    cases z : acc[i]? with
    | some v =>
      obtain ⟨hi, e⟩ := items.2 i v z
      rw [Array.getElem?_eq_getElem hi]; simp [e]
    | none =>
      have : es.size ≤ i := by rw [← items.1]; exact Array.getElem?_eq_none_iff.mp z
      rw [Array.getElem?_eq_none_iff.mpr this]; rfl
  rw [eacc]
  have er := each_reads I rv hd
  have I1 : Inv X pins σ H { s with heap := h', toks := tk } := I.kept (t' := tk) keep
  refine ⟨zs, ⟨keep, rfl, rfl, ?_, ?_, hal, hs, hz, fun z hz => by have := hdep z hz; omega⟩, fun out s2 p c keep2 hg ho2 hp at_ eo => ?_⟩
  · exact each_of_vals rv
  · exact er.mono fun _ _ ⟨as, r⟩ => ⟨as, PyProof.Rows.Reads.keeps keep r⟩
  · have hz2 : ((zs.mergeSort (PySem.W.dataLe false Prod.snd)).map Prod.fst).length ≤ sizeLine := by rw [List.length_map, List.length_mergeSort]; exact hz
    obtain ⟨hn, J⟩ := inv_laid I1 keep2 hg ho2 hp at_ (vals_of_each eo) hz2
    exact ⟨.ref p, _, J, rfl, q p hn⟩
theorem skeys_K {K : PySem.W.Frag} {S : Hp} : ∀ {kvs : List (DKey × D)} {es : List (Key × V)} {xs : List D}, RepK K S kvs es → sKeys false kvs = some xs → ∃ es' : List (Str × V), es = es'.map (fun e => (.inr e.1, e.2)) ∧ RepL K S xs (es'.map fun e => V.str e.1)
  | [], _, _, r, h => by
    unfold sKeys at h; cases h; cases r; exact ⟨[], rfl, .nil⟩
  | (.s x, d) :: kvs, _, _, r, h => by
    unfold sKeys at h
    rw [Option.map_eq_some_iff] at h
    obtain ⟨ys, hy, rfl⟩ := h
    cases r with
    | @cons _ j _ v _ vs hk hd r =>
      obtain ⟨es', rfl, r'⟩ := skeys_K r hy
      have hk : some (Sum.inr (strOf x)) = some j := hk
      cases hk
      exact ⟨(strOf x, v) :: es', rfl, .cons (.str x) r'⟩
  | (.i _, _) :: _, _, _, _, h => by unfold sKeys at h; cases h
  | (.t _, _) :: _, _, _, _, h => by unfold sKeys at h; cases h
theorem skeys_T {K : PySem.W.Frag} {S : Hp} : ∀ {kvs : List (DKey × D)} {es : List (NestedKey × Addr × Value)} {xs : List D}, RepT K S kvs es → sKeys true kvs = some xs → RepL K S xs (es.map fun x => V.ref x.2.1)
  | [], _, _, r, h => by
    unfold sKeys at h; cases h; cases r; exact .nil
  | (.t ks, d) :: kvs, _, _, r, h => by
    unfold sKeys at h
    rw [Option.map_eq_some_iff] at h
    obtain ⟨ys, hy, rfl⟩ := h
    cases r with
    | cons hk _ _ r => exact .cons hk (skeys_T r hy)
  | (.i _, _) :: _, _, _, _, h => by unfold sKeys at h; cases h
  | (.s _, _) :: _, _, _, _, h => by unfold sKeys at h; cases h
theorem prim_sort : PrimC X.K (fun vs H Q => rSortD X.K vs H Q ∨ rSortT X.K vs H Q ∨ rSortK X.K J.hs vs H Q) sortB := by
  intro S H vs ds p Q e hv hp q
  unfold sortB at hp
  split at hp
  · obtain ⟨v, rfl, h⟩ := vwl1 hv
    obtain ⟨a, us, rfl, ha, r⟩ := h.lst e
    obtain ⟨zs, rfl, h1, h2, h3, h4, rfl, rr⟩ := sort_rows e r hp
    exact .inl ⟨a, zs, rfl, .of ha, h1, h2, h3, h4, fun p hp => q _ _ S (ext_new e hp) (new_fr e hp (.lst rr))⟩
  · obtain ⟨v, rfl, h⟩ := vwl1 hv
    obtain ⟨a, us, rfl, ha, r⟩ := h.tup e
    obtain ⟨zs, rfl, h1, h2, h3, h4, rfl, rr⟩ := sort_rows e r hp
    exact .inr (.inl ⟨a, zs, rfl, ha, h1, h2, h3, h4, fun p hp => q _ _ S (ext_new e hp) (new_fr e hp (.lst rr))⟩)
  · rename_i b kvs
    obtain ⟨v, rfl, h⟩ := vwl1 hv
    rw [Option.bind_eq_some_iff] at hp
    obtain ⟨xs, hx, hp⟩ := hp
    cases b with
    | false =>
      obtain ⟨a, es, rfl, ha, r⟩ := h.dK e
      obtain ⟨es', rfl, r'⟩ := skeys_K r hx
      obtain ⟨zs, hz, h1, h2, h3, h4, rfl, rr⟩ := sort_rows e r' hp
      rw [hz] at r'
      refine .inr (.inr ⟨a, zs, rfl, .inl ⟨es', ha, hz.symm⟩, h1, h2, h3, h4, fun p hp => q _ _ S (ext_new e hp) (new_fr e hp (.lst rr))⟩)
    | true =>
      obtain ⟨a, b, es, rfl, ha, r⟩ := h.dT e
      have r' := skeys_T r hx
      obtain ⟨zs, hz, h1, h2, h3, h4, rfl, rr⟩ := sort_rows e r' hp
      refine .inr (.inr ⟨a, zs, rfl, .inr ⟨b, es, ha, hz.symm⟩, h1, h2, h3, h4, fun p hp => q _ _ S (ext_new e hp) (new_fr e hp (.lst rr))⟩)
  · cases hp
end
end Fi
end

section
/-! FiD: what code computes is what the machine does: expressions. Own work. -/
namespace Fi
open PySem PySem.Spec L2
variable [J : HW]

/-- an outcome that is kept while more is evaluated -/
inductive LOk (K : PySem.W.Frag) (S : Hp) (σ : L2.St) (v : V) : Rs → Prop
  | sh {d : D} : Rep K S d v → LOk K S σ v (.sh d)
  | pk {i : Nat} : σ[i]? = some (some v) → LOk K S σ v (.pk i)
section
variable {K : PySem.W.Frag} {S S' H H' : Hp} {σ : L2.St} {E E1 : Env} {v : V} {r : Rs} {d : D}
theorem LOk.mono (e : Same S S') (h : LOk K S σ v r) : LOk K S' σ v r := by
  cases h with
  | sh r => exact .sh (r.mono e)
  | pk e => exact .pk e
theorem LOk.vw (I : EnvOk K S H σ E) (h : LOk K S σ v r) (e : E.vw r = some d) : Vw K S H d v := by
  cases h with
  | sh r => exact vw_ok (H0 := H) I (.sh r) e
  | pk r => exact vw_ok (H0 := H) I (.pk r) e
theorem LOk.tk (I : EnvOk K S H σ E) (h : LOk K S σ v r) (e : E.tk r = some (d, E1)) : ∃ S1, Post K S H σ E S1 H σ E1 ∧ Rep K S1 d v := by
  cases h with
  | sh r => exact tk_ok (H0 := H) I (.sh r) (fun _ z => nomatch z) e
  | pk r => exact tk_ok (H0 := H) I (.pk r) (fun _ z => nomatch z) e
theorem fz_lok (h : ResOk K S H H σ E v r.fz) : LOk K S σ v r.fz := by
  cases r with
  | sh d => cases h with | sh r => exact .sh r
  | ow d => cases h with | sh r => exact .sh r
  | pk i => cases h with | pk r => exact .pk r
end
/-- outcomes kept, for values in a row -/
inductive LsOk (K : PySem.W.Frag) (S : Hp) (σ : L2.St) : List V → List Rs → Prop
  | nil : LsOk K S σ [] []
  | cons {v : V} {r : Rs} {vs : List V} {rs : List Rs} : LOk K S σ v r → LsOk K S σ vs rs → LsOk K S σ (v :: vs) (r :: rs)
section
variable {K : PySem.W.Frag} {S S' H H' : Hp} {σ : L2.St} {E E1 : Env}
theorem LsOk.mono (e : Same S S') {vs : List V} {rs : List Rs} (h : LsOk K S σ vs rs) : LsOk K S' σ vs rs := by
  induction h with
  | nil => exact .nil
  | cons a _ ih => exact .cons (a.mono e) ih
theorem LsOk.vws (I : EnvOk K S H σ E) {vs : List V} {rs : List Rs} (h : LsOk K S σ vs rs) : ∀ {ds : List D}, rs.mapM E.vw = some ds → VwL K S H ds vs := by
  induction h with
  | nil => intro ds e; simp at e; subst e; exact .nil
  | @cons v r vs rs a _ ih =>
    intro ds e
    rw [List.mapM_cons] at e
    cases z : E.vw r with
    | none => rw [z] at e; cases e
    | some d =>
      rw [z] at e
      cases y : rs.mapM E.vw with
      | none => rw [y] at e; cases e
      | some ds' =>
        rw [y] at e
        have e : some (d :: ds') = some ds := e
        cases e
        exact .cons (a.vw I z) (ih y)
theorem LsOk.tks {vs : List V} {rs : List Rs} : ∀ {S : Hp} {E : Env} (I : EnvOk K S H σ E) (h : LsOk K S σ vs rs) {ds : List D} {E1 : Env}, E.tks rs = some (ds, E1) → ∃ S1, Post K S H σ E S1 H σ E1 ∧ RepL K S1 ds vs := by
  induction rs generalizing vs with
  | nil =>
    intro S E I h ds E1 e
    cases h
    cases e
    exact ⟨S, .refl I, .nil⟩
  | cons r rs ih =>
    intro S E I h ds E1 e
    cases h with
    | cons a b =>
      unfold Env.tks at e
      cases z : E.tk r with
      | none => rw [z] at e; cases e
      | some p =>
        obtain ⟨d, E2⟩ := p
        rw [z] at e
        obtain ⟨S1, p1, rep⟩ := a.tk I z
        simp only at e
        cases y : E2.tks rs with
        | none => rw [y] at e; cases e
        | some q =>
          obtain ⟨ds', E3⟩ := q
          rw [y] at e; cases e
          obtain ⟨S2, p2, reps⟩ := ih p1.ok (b.mono p1.grow) y
          exact ⟨S2, p1.trans p2, .cons (rep.mono p2.grow) reps⟩
end

/-! ### readings -/
section
variable (K : PySem.W.Frag) (C : Ctx)
def tE (c : CE) : TE := fun σ H Q => ∃ S E r E', EnvOk K S H σ E ∧ evE C c E = some (r, E') ∧ ∀ v H' S', Post K S H σ E S' H' σ E' → ResOk K S' H' H σ E' v r → Q v H'
def tEs (c : CEs) : TA := fun σ H Q => ∃ S E rs E', EnvOk K S H σ E ∧ evEs C c E = some (rs, E') ∧ ∀ vs H' S', Post K S H σ E S' H' σ E' → LsOk K S' σ vs rs → Q vs H'
def tT (c : CE) : TT := fun σ H Q => ∃ S E r E' b, EnvOk K S H σ E ∧ evE C c E = some (r, E') ∧ (E'.vw r).bind D.truth = some b ∧ ∀ H' S', Post K S H σ E S' H' σ E' → Q b H'
def tO (c : CO) : TO := fun σ H Q => ∃ S E i E', EnvOk K S H σ E ∧ evO C c E = some (i, E') ∧ ∀ H' S', Post K S H σ E S' H' σ E' → Q i H'
end
theorem PE.imp {X : Cx} {e : Expr} {t t' : TE} (h : PE X e t) (i : ∀ σ H Q, t' σ H Q → t σ H Q) : PE X e t' := ⟨fun pins s σ H Q I q => h.run pins s σ H Q I (i σ H Q q)⟩
theorem PT.imp {X : Cx} {e : Expr} {t t' : TT} (h : PT X e t) (i : ∀ σ H Q, t' σ H Q → t σ H Q) : PT X e t' := ⟨fun pins s σ H Q I q => h.run pins s σ H Q I (i σ H Q q)⟩
theorem PA.imp {X : Cx} {e : List Expr} {t t' : TA} (h : PA X e t) (i : ∀ σ H Q, t' σ H Q → t σ H Q) : PA X e t' := ⟨fun pos pins s σ H Q I q => h.run pos pins s σ H Q I (i σ H Q q)⟩
theorem PS.imp {X : Cx} {e : Stmt} {t t' : TS} (h : PS X e t) (i : ∀ D σ H, t' D σ H → t D σ H) : PS X e t' := ⟨fun pins s σ H D I q => h.run pins s σ H D I (i D σ H q)⟩
theorem PSs.imp {X : Cx} {e : List Stmt} {t t' : TS} (h : PSs X e t) (i : ∀ D σ H, t' D σ H → t D σ H) : PSs X e t' := ⟨fun pins s σ H D I q => h.run pins s σ H D I (i D σ H q)⟩
theorem PO.imp {X : Cx} {e : Option Expr} {t t' : TO} (h : PO X e t) (i : ∀ σ H Q, t' σ H Q → t σ H Q) : PO X e t' := ⟨fun pins s σ H Q I q => h.run pins s σ H Q I (i σ H Q q)⟩
theorem PI.imp {X : Cx} {tg e : Expr} {t t' : TI} (h : PI X tg e t) (i : ∀ σ H Q, t' σ H Q → t σ H Q) : PI X tg e t' := ⟨fun pins s σ H Q I q => h.run pins s σ H Q I (i σ H Q q)⟩
theorem PE.or {X : Cx} {e : Expr} {t t' : TE} (h : PE X e t) (h' : PE X e t') : PE X e (fun σ H Q => t σ H Q ∨ t' σ H Q) := ⟨fun pins s σ H Q I q => q.elim (h.run pins s σ H Q I) (h'.run pins s σ H Q I)⟩
theorem PI.or {X : Cx} {tg e : Expr} {t t' : TI} (h : PI X tg e t) (h' : PI X tg e t') : PI X tg e (fun σ H Q => t σ H Q ∨ t' σ H Q) := ⟨fun pins s σ H Q I q => q.elim (h.run pins s σ H Q I) (h'.run pins s σ H Q I)⟩
theorem PS.or {X : Cx} {e : Stmt} {t t' : TS} (h : PS X e t) (h' : PS X e t') : PS X e (fun D σ H => t D σ H ∨ t' D σ H) := ⟨fun pins s σ H D I q => q.elim (h.run pins s σ H D I) (h'.run pins s σ H D I)⟩

section
variable {K : PySem.W.Frag} {C : Ctx} {S H : Hp} {σ : L2.St} {E E1 E2 E3 : Env}
/-- an operand, kept -/
theorem op_kept {a : CE} {r : Rs} {Q : VK} (I : EnvOk K S H σ E) (e : evE C a E = some (r, E1)) (q : ∀ v H1 S1, Post K S H σ E S1 H1 σ E1 → LOk K S1 σ v r.fz → Q v H1) : tE K C a σ H Q :=
  ⟨S, E, r, E1, I, e, fun v H1 S1 p h => by
    obtain ⟨S2, p2, k⟩ := p.fz h
    exact q v H1 S2 p2 (fz_lok (k H1))⟩
/-- an operation's outcome -/
theorem op_end {v : V} {p : PR} {S1 H1 S2 H2 : Hp} {Q : VK} (I : EnvOk K S H σ E) (q : ∀ v H' S', Post K S H σ E S' H' σ E1 → ResOk K S' H' H σ E1 v p.rs → Q v H') (p1 : Post K S H σ E S1 H1 σ E1) (x : Ext S1 H1 S2 H2) (r : PRes K S2 H2 H1 v p) : Q v H2 :=
  q v H2 S2 (p1.trans (x.post p1.ok)) (by
    have h := r.res p1.ok
    exact h.from p1.dom)
end

/-! ### the context of a def, or of a comprehension's block in it -/
structure ArgsOk (K : PySem.W.Frag) (S H : Hp) (vs : List V) (as : List (Bool × D)) : Prop where
  sub : Same S H
  len : vs.length = as.length
  sh : ∀ (i : Nat) (d : D), as[i]? = some (false, d) → ∃ v, vs[i]? = some v ∧ Rep K S d v
  ow : ∀ (i : Nat) (d : D), as[i]? = some (true, d) → ∃ a, vs[i]? = some (.ref a) ∧ S a = none ∧ OwnAt K S (H a) d
  inj : ∀ (i j : Nat) (d e : D) (a : Addr), as[i]? = some (true, d) → as[j]? = some (true, e) → vs[i]? = some (.ref a) → vs[j]? = some (.ref a) → i = j
/-- the places lent -/
def Lent (vs : List V) (as : List (Bool × D)) (a : Addr) : Prop := ∃ (i : Nat) (d : D), as[i]? = some (true, d) ∧ vs[i]? = some (.ref a)
inductive FinOk (K : PySem.W.Frag) (S H : Hp) (a : Addr) : Sl → Prop
  | ow {d : D} : S a = none → OwnAt K S (H a) d → FinOk K S H a (.ow d)
  | sh {d : D} : Rep K S d (.ref a) → S a ≠ none → FinOk K S H a (.sh d)
inductive GiveOk (K : PySem.W.Frag) (S H H0 : Hp) (v : V) : Rs → Prop
  | sh {d : D} : Rep K S d v → GiveOk K S H H0 v (.sh d)
  | ow {d : D} {a : Addr} : v = .ref a → H0 a = none → S a = none → OwnAt K S (H a) d → GiveOk K S H H0 v (.ow d)
/-- what a call leaves -/
structure CallPost (K : PySem.W.Frag) (S H : Hp) (vs : List V) (as : List (Bool × D)) (S' H' : Hp) (v : V) (r : Rs) (ss : List Sl) : Prop where
  sub : Same S' H'
  grow : Same S S'
  frame : ∀ a o, ¬ Lent vs as a → H a = some o → H' a = some o
  keepS : ∀ a o, ¬ Lent vs as a → H a = some o → S a = none → S' a = none
  dom : ∀ a, H' a = none → H a = none
  len : ss.length = as.length
  fin : ∀ (i : Nat) (d : D) (a : Addr), as[i]? = some (true, d) → vs[i]? = some (.ref a) → ∃ s, ss[i]? = some s ∧ FinOk K S' H' a s
  give : GiveOk K S' H' H v r
def spD (K : PySem.W.Frag) (call : List (Bool × D) → Option (Rs × List Sl)) (n : Nat) : Sp := fun vs H Q _ =>
  vs.length = n ∧ ∃ S as r ss, ArgsOk K S H vs as ∧ call as = some (r, ss) ∧ ∀ v H' S', CallPost K S H vs as S' H' v r ss → Q v H'

def blts : List Str := ["len", "abs", "int", "tuple", "list", "any", "all", "isinstance", "range", "sorted", "set", "str", "dict", "enumerate", "zip", "max", "min", "sum", "bool"]
structure Ok (X : Cx) (N : List Str) (sc : List (Str × NameKind)) (C : Ctx) (F : List (Str × Nat)) (n : Nat) : Prop where
  eN : X.N = N
  nd : N.Nodup
  names : X.env.scope.names = sc
  kind : X.env.scope.kind = .function
  calm : X.calm = true
  nox : X.xe = fun _ _ => False
  room : Room n X.A
  funs : ∀ f m, F.lookup f = some m → ∃ fa fd ps, X.mg f = some (.ref fa) ∧ PySem.W.keepIn X.K (.ref fa) = true ∧ Binds X.K fd ps [] ∧ FnOk X.prog X.w X.K X.mg X.base CX0 n fa fd ps (spD X.K (C.call f) m)
  blt : ∀ x ∈ blts, X.mg x = none
  glo : ∀ x d, C.glo x = some d → ∃ v u, X.mg x = some u ∧ RelV v u ∧ Rep X.K (fun _ => none) d v
  hw : J.hs = fun k => k.hash X.w
end Fi
end

section
/-! FiE: simple expressions. Own work. -/
namespace Fi
open PySem PySem.Spec L2
variable [J : HW]

abbrev Nms := List (Str × NameKind)
def vis (sc : Nms) (x : Str) : Bool := match sc.lookup x with
  | some .local => true | some .cell => true | some .free => true
  | _ => false
def slot (N : List Str) (x : Str) : Option Nat := (N.findIdx? (· == x)).bind fun i => if N[i]? = some x then some i else none
theorem slot_ok {N : List Str} {x : Str} {i : Nat} (h : slot N x = some i) : N[i]? = some x := by
  unfold slot at h
  cases z : N.findIdx? (· == x) with
  | none => rw [z] at h; cases h
  | some j =>
    rw [z] at h
    simp only [Option.bind_some] at h
    split at h
    · cases h; assumption
    · cases h
def isStar : Expr → Bool
  | .Starred _ _ => true
  | _ => false
theorem star_cons {e : Expr} {es : List Expr} {env : PySem.Env} (h : isStar e = false) : starEach (e :: es) env = (false, eval e env) :: starEach es env := by
  cases e <;> first | rfl | cases h
theorem star_any {es : List Expr} {env : PySem.Env} {pos : Pos} (h : es.all (fun e => !isStar e) = true) : (backTo pos (starEach es env)).any (·.1) = false := by
  induction es with
  | nil => rfl
  | cons e es ih =>
    simp only [List.all_cons, Bool.and_eq_true, Bool.not_eq_true'] at h
    rw [star_cons h.1]
    show (false || (backTo pos (starEach es env)).any (·.1)) = false
    rw [ih h.2]; rfl
theorem star_all {es : List Expr} {env : PySem.Env} {pos : Pos} (h : es.all (fun e => !isStar e) = true) : (backTo pos (starEach es env)).all (fun x => !x.1) = true := by
  induction es with
  | nil => rfl
  | cons e es ih =>
    simp only [List.all_cons, Bool.and_eq_true, Bool.not_eq_true'] at h
    rw [star_cons h.1]
    show (!false && (backTo pos (starEach es env)).all (fun x => !x.1)) = true
    rw [ih h.2]; rfl
def isBare : Expr → Bool
  | .Call _ [] [] _ => true
  | _ => false
theorem base_ok {o : Expr} {m : Str} {env : PySem.Env} (h : isBare o = false) : attributeBase o m env (eval o env) = eval o env := by
  unfold attributeBase
  split
  · cases h
  · rfl
def isSlice : Expr → Bool
  | .Slice _ _ _ _ => true
  | _ => false
theorem plain_ix {b : Expr} (h : isSlice b = false) : ∀ o i, subscripted b false o i = operate [o, i] (getItem o i) := by
  intro o i
  cases b <;> first | rfl | cases h
/-- tests of their own kind -/
def isTst : Expr → Bool
  | .UnaryOp .Not _ _ => true
  | .BoolOp _ _ _ => true
  | .IfExp _ _ _ _ => true
  | .Compare _ _ _ _ => true
  | _ => false
theorem truth_ok {e : Expr} {env : PySem.Env} (h : isTst e = false) : ∀ whole, isTrue e env whole = (do let v ← whole; standAt e.pos; holding [v] (truthy v)) := by
  intro w
  cases e <;> first | rfl | (cases h; done) | skip
  rename_i op x p
  cases op <;> first | rfl | cases h

section
variable {X : Cx} {N : List Str} {sc W : Nms} {C : Ctx} {F : List (Str × Nat)} {n : Nat}
theorem Ok.vis (O : Ok X N sc C F n) {x : Str} (h : vis sc x = true) : Vis X.env.scope x := by
  unfold Fi.vis at h
  unfold Vis
  rw [O.names]
  split at h <;> first | (rename_i z; exact .inl z) | (rename_i z; exact .inr (.inl z)) | (rename_i z; exact .inr (.inr z)) | cases h
theorem Ok.gl (O : Ok X N sc C F n) {x : Str} (h : sc.lookup x = some .globalImplicit) : Gl X x := by
  show X.env.scope.names.lookup x = _
  rw [O.names]; exact h

/-! names, constants -/
theorem so_var (O : Ok X N sc C F n) {x : Str} {i : Nat} {pos : Pos} (h : slot N x = some i) (hv : vis sc x = true) (hd : (x == ("__debug__" : Str)) = false) (hc : (x == ("__classdict__" : Str)) = false) :
    PE X (.Name x pos) (tE X.K C (.var i)) := by
  refine PE.imp (pe_var (i := i) (by rw [O.eN]; exact slot_ok h) (O.vis hv) hd hc) fun σ H Q ⟨S, E, r, E', I, e, q⟩ => ?_
  unfold evE at e
  split at e
  · cases e
  · rename_i d g
    cases e
    obtain ⟨v, ev, rv⟩ := I.sh i d g
    exact ⟨v, ev, q v H S (.refl I) (.sh rv)⟩
  · rename_i g1 g2
    cases e
    cases g : E.get i with
    | un => exact absurd g g1
    | sh d => exact absurd g (g2 d)
    | ow d =>
      obtain ⟨a, ev, _⟩ := I.ow i d (.inl g)
      exact ⟨_, ev, q _ H S (.refl I) (.pk ev)⟩
    | lk d =>
      obtain ⟨a, ev, _⟩ := I.ow i d (.inr g)
      exact ⟨_, ev, q _ H S (.refl I) (.pk ev)⟩
theorem so_con {e : Expr} {d : D} {v : V} (h : PE X e (tC v)) (r : ∀ K S, Rep K S d v) : PE X e (tE X.K C (.con d)) := by
  refine PE.imp h fun σ H Q ⟨S, E, r', E', I, e, q⟩ => ?_
  unfold evE at e
  cases e
  exact q v H S (.refl I) (.sh (r _ _))
theorem so_glo (O : Ok X N sc C F n) {x : Str} {pos : Pos} (h : sc.lookup x = some .globalImplicit) (hd : (x == ("__debug__" : Str)) = false) : PE X (.Name x pos) (tE X.K C (.glo x)) := by
  refine ⟨fun pins s σ H Q I0 ⟨S, E, r, E', I, e, q⟩ => ?_⟩
  unfold evE at e
  cases g : C.glo x with
  | none => rw [g] at e; cases e
  | some d =>
    rw [g] at e; cases e
    obtain ⟨v, u, hm, rv, rep⟩ := O.glo x d g
    exact (pe_glob (O.gl h) hm rv hd).run pins s σ H Q I0 (q v H S (.refl I) (.sh (rep.mono fun _ _ z => (by cases z))))

/-! lists of expressions -/
theorem so_nil : PA X [] (tEs X.K C .nil) := by
  refine PA.imp pa_nil fun σ H Q ⟨S, E, rs, E', I, e, q⟩ => ?_
  unfold evEs at e
  cases e
  exact q [] H S (.refl I) .nil
theorem so_cons {e : Expr} {es : List Expr} {c : CE} {cs : CEs} (hs : isStar e = false) (h : PE X e (tE X.K C c)) (hr : PA X es (tEs X.K C cs)) : PA X (e :: es) (tEs X.K C (.cons c cs)) := by
  refine PA.imp (pa_cons h hr (star_cons hs)) fun σ H Q ⟨S, E, rs, E', I, e, q⟩ => ?_
  unfold evEs at e
  split at e
  · rename_i x E1 e1
    split at e
    · rename_i xs E2 e2
      cases e
      refine op_kept I e1 fun v H1 S1 p1 l1 => ?_
      refine ⟨S1, E1, xs, E', p1.ok, e2, fun vs H2 S2 p2 l2 => ?_⟩
      exact q _ H2 S2 (p1.trans p2) (.cons (l1.mono p2.grow) l2)
    · cases e
  · cases e
theorem LsOk.len {K : PySem.W.Frag} {S : Hp} {σ : L2.St} {vs : List V} {rs : List Rs} (h : LsOk K S σ vs rs) : vs.length = rs.length := by
  induction h with
  | nil => rfl
  | cons _ _ ih => simp [ih]
theorem so_tup {es : List Expr} {k : Nat} {pos : Pos} {cs : CEs} (h : PA X es (tEs X.K C cs)) : PE X (.Tuple es k pos) (tE X.K C (.tup cs)) := by
  refine PE.imp (pe_tupF h) fun σ H Q ⟨S, E, r, E', I, e, q⟩ => ?_
  unfold evE at e
  split at e
  · rename_i rs E1 e1
    split at e
    · rename_i ds E2 e2
      split at e
      · rename_i hl
        cases e
        refine ⟨S, E, rs, E1, I, e1, fun vs H1 S1 p1 l1 => ?_⟩
        obtain ⟨S2, p2, rep⟩ := l1.tks p1.ok e2
        have p12 := p1.trans p2
        refine ⟨by rw [← rep.length, ← big_eq]; exact hl, fun p o hp ho => ?_⟩
        have x := ext_tup (o := .frz o (.tup vs)) p12.sub hp
        exact q _ _ _ (p12.trans (x.post p12.ok)) (.sh (new_tup p12.sub hp ho rep))
      · cases e
    · cases e
  · cases e
theorem so_lst {es : List Expr} {pos : Pos} {cs : CEs} (h : PA X es (tEs X.K C cs)) : PE X (.List es pos) (tE X.K C (.lst cs)) := by
  refine PE.imp (pe_lst h) fun σ H Q ⟨S, E, r, E', I, e, q⟩ => ?_
  unfold evE at e
  split at e
  · rename_i rs E1 e1
    split at e
    · rename_i ds E2 e2
      split at e
      · rename_i hl
        cases e
        refine ⟨S, E, rs, E1, I, e1, fun vs H1 S1 p1 l1 => ?_⟩
        obtain ⟨S2, p2, rep⟩ := l1.tks p1.ok e2
        have p12 := p1.trans p2
        refine ⟨by rw [← rep.length, ← big_eq]; exact hl, fun p hp => ?_⟩
        exact op_end (p := .fr (.lst ds)) I q p12 (ext_new p12.sub hp) (new_fr p12.sub hp (.lst rep))
      · cases e
    · cases e
  · cases e
theorem so_dct {pos : Pos} : PE X (.Dict [] [] pos) (tE X.K C (.dct false .nil)) := by
  refine PE.imp pe_dnewK fun σ H Q ⟨S, E, r, E', I, e, q⟩ => ?_
  unfold evE at e
  cases e
  intro p hp
  exact op_end (p := .fr (.dct false [])) I q (.refl I) (ext_new I.sub hp) (new_fr I.sub hp (.dK .nil))

/-! operators -/
theorem so_op2 {a b : Expr} {ca cb : CE} {o : O2} {e : Expr} {r : R2} (ho : ∀ {ta tb : TE}, PE X a ta → PE X b tb → PE X e (tOp r ta tb)) (pr : Prim2 X.K r (op2D o)) (ha : PE X a (tE X.K C ca)) (hb : PE X b (tE X.K C cb)) :
    PE X e (tE X.K C (.op2 o ca cb)) := by
  refine PE.imp (ho ha hb) fun σ H Q ⟨S, E, rr, E', I, e, q⟩ => ?_
  unfold evE at e
  split at e
  · rename_i ra E1 e1
    split at e
    · rename_i rb E2 e2
      split at e
      · rename_i da db va vb
        simp only [Option.map_eq_some_iff] at e
        obtain ⟨p, hp, e⟩ := e
        cases e
        refine op_kept I e1 fun x H1 S1 p1 l1 => ?_
        refine op_kept p1.ok e2 fun y H2 S2 p2 l2 => ?_
        have p12 := p1.trans p2
        exact pr S2 H2 x y da db p Q p12.sub ((l1.mono p2.grow).vw p12.ok va) (l2.vw p12.ok vb) hp fun v H' S' x r => op_end I q p12 x r
      · cases e
    · cases e
  · cases e
theorem so_op1 {a e : Expr} {ca : CE} {o : O1} {r : V → Hp → VK → Prop} (ho : ∀ {ta : TE}, PE X a ta → PE X e (tUn r ta)) (pr : ∀ (S H : Hp) (x : V) (d : D) (p : PR) (Q : VK), Same S H → Vw X.K S H d x → op1D o d = some p → (∀ v H' S', Ext S H S' H' → PRes X.K S' H' H v p → Q v H') → r x H Q)
    (ha : PE X a (tE X.K C ca)) : PE X e (tE X.K C (.op1 o ca)) := by
  refine PE.imp (ho ha) fun σ H Q ⟨S, E, rr, E', I, e, q⟩ => ?_
  unfold evE at e
  split at e
  · rename_i ra E1 e1
    split at e
    · rename_i da va
      simp only [Option.map_eq_some_iff] at e
      obtain ⟨p, hp, e⟩ := e
      cases e
      refine op_kept I e1 fun x H1 S1 p1 l1 => ?_
      exact pr S1 H1 x da p Q p1.sub (l1.vw p1.ok (by rw [vw_fz]; exact va)) hp fun v H' S' x r => op_end I q p1 x r
    · cases e
  · cases e
theorem so_neg {a : Expr} {ca : CE} {pos : Pos} (ha : PE X a (tE X.K C ca)) : PE X (.UnaryOp .USub a pos) (tE X.K C (.op1 .neg ca)) :=
  so_op1 (fun h => pe_un un_neg h) (fun S H x d p Q e hx hp q => by
    unfold op1D at hp
    split at hp
    · cases hp
      exact ⟨_, hx.int, sc_of e q (.int _)⟩
    · cases hp) ha

/-! truth -/
theorem tt_of {c : CE} {σ : L2.St} {H : Hp} {Q : Bool → Hp → Prop} (h : tT X.K C c σ H Q) : tE X.K C c σ H fun v H1 => ∃ k, TruV X.K v H1 k ∧ Q k H1 := by
  obtain ⟨S, E, r, E1, b, I, e, t, q⟩ := h
  refine op_kept I e fun v H1 S1 p1 l1 => ?_
  cases z : E1.vw r with
  | none => rw [z] at t; cases t
  | some d =>
    rw [z] at t
    exact ⟨b, vw_truth p1.sub (l1.vw p1.ok (by rw [vw_fz]; exact z)) t, q H1 S1 p1⟩
theorem so_test {e : Expr} {c : CE} (h : PE X e (tE X.K C c)) (ht : isTst e = false) : PT X e (tT X.K C c) :=
  PT.imp (pt_truth h (truth_ok ht)) fun σ H Q q => tt_of q
theorem so_not {a : Expr} {c : CE} {pos : Pos} (h : PE X a (tE X.K C c)) : PE X (.UnaryOp .Not a pos) (tE X.K C (.not c)) := by
  refine PE.imp (pe_notT h) fun σ H Q ⟨S, E, r, E', I, e, q⟩ => ?_
  unfold evE at e
  split at e
  · rename_i ra E1 e1
    split at e
    · rename_i d z
      simp only [Option.map_eq_some_iff] at e
      obtain ⟨k, hk, e⟩ := e
      cases e
      exact tt_of (Q := fun k' H1 => Q (.bl (!k')) H1) ⟨S, E, ra, E', k, I, e1, by rw [z]; exact hk, fun H1 S1 p1 => q _ H1 S1 p1 (.sh (.bl _))⟩
    · cases e
  · cases e
theorem so_notT {a : Expr} {c : CE} {pos : Pos} (h : PT X a (tT X.K C c)) : PT X (.UnaryOp .Not a pos) (tT X.K C (.not c)) := by
  refine PT.imp (pt_not h) fun σ H Q ⟨S, E, r, E', b, I, e, t, q⟩ => ?_
  unfold evE at e
  split at e
  · rename_i ra E1 e1
    split at e
    · rename_i d z
      simp only [Option.map_eq_some_iff] at e
      obtain ⟨k, hk, e⟩ := e
      cases e
      have t : some (!k) = some b := t
      cases t
      exact ⟨S, E, ra, E', k, I, e1, by rw [z]; exact hk, q⟩
    · cases e
  · cases e
/-- and, or as values -/
theorem so_and {a b : Expr} {r : List Expr} {ca cb : CE} {pos : Pos} (ha : PE X a (tE X.K C ca)) (hb : PE X (.BoolOp .And (b :: r) pos) (tE X.K C cb)) : PE X (.BoolOp .And (a :: b :: r) pos) (tE X.K C (.and ca cb)) := by
  refine PE.imp (pe_andT ha hb) fun σ H Q ⟨S, E, rr, E', I, e, q⟩ => ?_
  unfold evE at e
  split at e
  · rename_i ra E1 e1
    split at e
    · rename_i t
      refine op_kept I e1 fun v H1 S1 p1 l1 => ?_
      cases z : E1.vw ra with
      | none => rw [z] at t; cases t
      | some d =>
        rw [z] at t
        refine ⟨true, vw_truth p1.sub (l1.vw p1.ok (by rw [vw_fz]; exact z)) t, ?_⟩
        rw [if_pos rfl]
        exact ⟨S1, E1, rr, E', p1.ok, e, fun v H2 S2 p2 r2 => q v H2 S2 (p1.trans p2) (r2.from p1.dom)⟩
    · rename_i t
      cases e
      refine ⟨S, E, rr, E', I, e1, fun v H1 S1 p1 r1 => ?_⟩
      cases z : E'.vw rr with
      | none => rw [z] at t; cases t
      | some d =>
        rw [z] at t
        refine ⟨false, vw_truth p1.sub (vw_ok p1.ok r1 z) t, ?_⟩
        rw [if_neg Bool.false_ne_true]
        exact q v H1 S1 p1 r1
    · cases e
  · cases e
theorem so_or {a b : Expr} {r : List Expr} {ca cb : CE} {pos : Pos} (ha : PE X a (tE X.K C ca)) (hb : PE X (.BoolOp .Or (b :: r) pos) (tE X.K C cb)) : PE X (.BoolOp .Or (a :: b :: r) pos) (tE X.K C (.or ca cb)) := by
  refine PE.imp (pe_orT ha hb) fun σ H Q ⟨S, E, rr, E', I, e, q⟩ => ?_
  unfold evE at e
  split at e
  · rename_i ra E1 e1
    split at e
    · rename_i t
      cases e
      refine ⟨S, E, rr, E', I, e1, fun v H1 S1 p1 r1 => ?_⟩
      cases z : E'.vw rr with
      | none => rw [z] at t; cases t
      | some d =>
        rw [z] at t
        refine ⟨true, vw_truth p1.sub (vw_ok p1.ok r1 z) t, ?_⟩
        rw [if_pos rfl]
        exact q v H1 S1 p1 r1
    · rename_i t
      refine op_kept I e1 fun v H1 S1 p1 l1 => ?_
      cases z : E1.vw ra with
      | none => rw [z] at t; cases t
      | some d =>
        rw [z] at t
        refine ⟨false, vw_truth p1.sub (l1.vw p1.ok (by rw [vw_fz]; exact z)) t, ?_⟩
        rw [if_neg Bool.false_ne_true]
        exact ⟨S1, E1, rr, E', p1.ok, e, fun v H2 S2 p2 r2 => q v H2 S2 (p1.trans p2) (r2.from p1.dom)⟩
    · cases e
  · cases e
/-- and, or as tests -/
theorem so_andW {a b : Expr} {r : List Expr} {ca cb : CE} {pos : Pos} (ha : PT X a (tT X.K C ca)) (hb : PW X (.BoolOp .And (b :: r) pos) (tT X.K C cb)) : PW X (.BoolOp .And (a :: b :: r) pos) (tT X.K C (.and ca cb)) := by
  refine ⟨fun wh pins s σ H Q I0 ⟨S, E, rr, E', k, I, e, tk, q⟩ => (pw_and ha hb).run wh pins s σ H Q I0 ?_⟩
  unfold evE at e
  split at e
  · rename_i ra E1 e1
    split at e
    · rename_i t
      refine ⟨S, E, ra, E1, true, I, e1, t, fun H1 S1 p1 => ?_⟩
      exact iteT ⟨S1, E1, rr, E', k, p1.ok, e, tk, fun H2 S2 p2 => q H2 S2 (p1.trans p2)⟩
    · rename_i t
      cases e
      rw [tk] at t; cases t
      exact ⟨S, E, rr, E', false, I, e1, tk, fun H1 S1 p1 => iteF (q H1 S1 p1)⟩
    · cases e
  · cases e
theorem so_orW {a b : Expr} {r : List Expr} {ca cb : CE} {pos : Pos} (ha : PT X a (tT X.K C ca)) (hb : PW X (.BoolOp .Or (b :: r) pos) (tT X.K C cb)) : PW X (.BoolOp .Or (a :: b :: r) pos) (tT X.K C (.or ca cb)) := by
  refine ⟨fun wh pins s σ H Q I0 ⟨S, E, rr, E', k, I, e, tk, q⟩ => (pw_or ha hb).run wh pins s σ H Q I0 ?_⟩
  unfold evE at e
  split at e
  · rename_i ra E1 e1
    split at e
    · rename_i t
      cases e
      rw [tk] at t; cases t
      exact ⟨S, E, rr, E', true, I, e1, tk, fun H1 S1 p1 => iteT (q H1 S1 p1)⟩
    · rename_i t
      refine ⟨S, E, ra, E1, false, I, e1, t, fun H1 S1 p1 => ?_⟩
      exact iteF ⟨S1, E1, rr, E', k, p1.ok, e, tk, fun H2 S2 p2 => q H2 S2 (p1.trans p2)⟩
    · cases e
  · cases e
theorem so_ifx {c a b : Expr} {cc ca cb : CE} {pos : Pos} (hc : PT X c (tT X.K C cc)) (ha : PE X a (tE X.K C ca)) (hb : PE X b (tE X.K C cb)) : PE X (.IfExp c a b pos) (tE X.K C (.ifx cc ca cb)) := by
  refine PE.imp (pe_ifExp hc ha hb) fun σ H Q ⟨S, E, rr, E', I, e, q⟩ => ?_
  unfold evE at e
  split at e
  · rename_i rc E1 e1
    split at e
    · rename_i t
      refine ⟨S, E, rc, E1, true, I, e1, t, fun H1 S1 p1 => ?_⟩
      exact iteT ⟨S1, E1, rr, E', p1.ok, e, fun v H2 S2 p2 r2 => q v H2 S2 (p1.trans p2) (r2.from p1.dom)⟩
    · rename_i t
      refine ⟨S, E, rc, E1, false, I, e1, t, fun H1 S1 p1 => ?_⟩
      exact iteF ⟨S1, E1, rr, E', p1.ok, e, fun v H2 S2 p2 r2 => q v H2 S2 (p1.trans p2) (r2.from p1.dom)⟩
    · cases e
  · cases e
theorem so_ifxT {c a b : Expr} {cc ca cb : CE} {pos : Pos} (hc : PT X c (tT X.K C cc)) (ha : PT X a (tT X.K C ca)) (hb : PT X b (tT X.K C cb)) : PT X (.IfExp c a b pos) (tT X.K C (.ifx cc ca cb)) := by
  refine ⟨fun pins s σ H Q I0 ⟨S, E, rr, E', k, I, e, tk, q⟩ => ?_⟩
  unfold evE at e
  split at e
  · rename_i rc E1 e1
    split at e
    · rename_i t
      refine PyProof.Rows.isTrue_IfExp (thn (hc.run pins s σ H (fun d H1 => d = true ∧ ∃ S1, Post X.K S H σ E S1 H1 σ E1) I0 ⟨S, E, rc, E1, true, I, e1, t, fun H1 S1 p1 => ⟨rfl, S1, p1⟩⟩) fun d s1 ⟨H1, I1, ed, S1, p1⟩ => ?_)
      subst ed
      exact ha.run pins s1 σ H1 Q I1 ⟨S1, E1, rr, E', k, p1.ok, e, tk, fun H2 S2 p2 => q H2 S2 (p1.trans p2)⟩
    · rename_i t
      refine PyProof.Rows.isTrue_IfExp (thn (hc.run pins s σ H (fun d H1 => d = false ∧ ∃ S1, Post X.K S H σ E S1 H1 σ E1) I0 ⟨S, E, rc, E1, false, I, e1, t, fun H1 S1 p1 => ⟨rfl, S1, p1⟩⟩) fun d s1 ⟨H1, I1, ed, S1, p1⟩ => ?_)
      subst ed
      exact hb.run pins s1 σ H1 Q I1 ⟨S1, E1, rr, E', k, p1.ok, e, tk, fun H2 S2 p2 => q H2 S2 (p1.trans p2)⟩
    · cases e
  · cases e
/-- an operation that gives True or False, as a test -/
theorem so_cmpT {e : Expr} {t : TE} {c : CE} (h : PT X e (tTest t)) (i : ∀ σ H Q, tE X.K C c σ H Q → t σ H Q) (hb : ∀ E r E', evE C c E = some (r, E') → ∃ k, r = .sh (.bl k)) : PT X e (tT X.K C c) := by
  refine PT.imp h fun σ H Q ⟨S, E, r, E', k, I, e, tk, q⟩ => i σ H _ ?_
  obtain ⟨k', rfl⟩ := hb E r E' e
  refine ⟨S, E, _, E', I, e, fun v H1 S1 p1 r1 => ?_⟩
  have tk : some k' = some k := tk
  cases tk
  cases r1 with
  | sh r => cases r; exact ⟨_, rfl, q H1 S1 p1⟩
end
end Fi
end

section
/-! FiF: places, slices, calls, methods. Own work. -/
namespace Fi
open PySem PySem.Spec L2
variable [J : HW]
section
variable {X : Cx} {N : List Str} {sc W : Nms} {C : Ctx} {F : List (Str × Nat)} {n : Nat}

theorem dget_rep {S H : Hp} {x y : V} {kvs : List (DKey × D)} {dy : D} {k : DKey} (e : Same S H) (hx : Vw X.K S H (.dct false kvs) x) (hy : Vw X.K S H dy y) (hk : dy.key = some k) (ok : k.ok false = true) :
    ∃ a o, x = .ref a ∧ DGet H a y o ∧ (∀ d, kget k kvs = some d → ∃ v, o = some v ∧ Rep X.K S d v) ∧ (kget k kvs = none → o = none) := by
  obtain ⟨a, es, rfl, ha, r⟩ := hx.dK e
  obtain ⟨j, hj, rfl⟩ := key_rep hy hk ok
  obtain ⟨g1, g2⟩ := get_rep r hj
  exact ⟨a, _, rfl, DGet.k ha, g1, g2⟩
theorem so_idx (hu : X.A.units + 1 < cLine) {a b : Expr} {ca cb : CE} {pos : Pos} (hs : isSlice b = false) (ha : PE X a (tE X.K C ca)) (hb : PE X b (tE X.K C cb)) : PE X (.Subscript a b pos) (tE X.K C (.idx ca cb)) := by
  refine PE.imp (PE.or (pe_ix ix_seq ha hb (plain_ix hs)) (pe_dget hu ha hb (plain_ix hs))) fun σ H Q ⟨S, E, r, E', I, e, q⟩ => ?_
  unfold evE at e
  split at e
  · rename_i ra E1 e1
    split at e
    · rename_i rb E2 e2
      split at e
      · rename_i da db va vb
        simp only [Option.map_eq_some_iff] at e
        obtain ⟨p, hp, e⟩ := e
        cases e
        by_cases nd : notDct da = true
        · left
          refine op_kept I e1 fun x H1 S1 p1 l1 => ?_
          refine op_kept p1.ok e2 fun y H2 S2 p2 l2 => ?_
          have p12 := p1.trans p2
          exact prim_ix p12.sub ((l1.mono p2.grow).vw p12.ok va) (l2.vw p12.ok vb) hp nd fun v H' S' x r => op_end I q p12 x r
        · right
          refine op_kept I e1 fun x H1 S1 p1 l1 => ?_
          refine op_kept p1.ok e2 fun y H2 S2 p2 l2 => ?_
          have p12 := p1.trans p2
          have vx := (l1.mono p2.grow).vw p12.ok va
          have vy := l2.vw p12.ok vb
          unfold ixD at hp
          split at hp <;> first | (exact absurd rfl nd) | skip
          · simp only [Option.bind_eq_some_iff] at hp
            obtain ⟨k, hk, hp⟩ := hp
            split at hp
            · rename_i ok
              simp only [Option.map_eq_some_iff] at hp
              obtain ⟨d, hd, rfl⟩ := hp
              obtain ⟨a, o, ex, g, g1, _⟩ := dget_rep p12.sub vx vy hk ok
              obtain ⟨v, rfl, rv⟩ := g1 d hd
              exact ⟨a, v, ex, g, op_end I q p12 (.refl p12.sub) (.sc rv)⟩
            · cases hp
          · cases hp
      · cases e
    · cases e
  · cases e

theorem so_no : PO X none (tO X.K C .no) := by
  refine PO.imp po_none fun σ H Q ⟨S, E, i, E', I, e, q⟩ => ?_
  unfold evO at e
  cases e
  exact q H S (.refl I)
theorem so_so {a : Expr} {c : CE} (h : PE X a (tE X.K C c)) : PO X (some a) (tO X.K C (.so c)) := by
  refine PO.imp (po_some h) fun σ H Q ⟨S, E, i, E', I, e, q⟩ => ?_
  unfold evO at e
  split at e
  · rename_i r E1 e1
    split at e
    · rename_i i va
      cases e
      refine op_kept I e1 fun x H1 S1 p1 l1 => ?_
      have := (l1.vw p1.ok (by rw [vw_fz]; exact va)).int
      exact ⟨_, this, q H1 S1 p1⟩
    · cases e
  · cases e
theorem so_cut {a : Expr} {lo hi : Option Expr} {ca : CE} {cl ch : CO} {p2 pos : Pos} (ha : PE X a (tE X.K C ca)) (hl : PO X lo (tO X.K C cl)) (hh : PO X hi (tO X.K C ch)) : PE X (.Subscript a (.Slice lo hi none p2) pos) (tE X.K C (.cut ca cl ch)) := by
  refine PE.imp (pe_slice sl_any ha hl hh) fun σ H Q ⟨S, E, r, E', I, e, q⟩ => ?_
  unfold evE at e
  split at e
  · rename_i ra E1 e1
    split at e
    · rename_i l E2 e2
      split at e
      · rename_i h E3 e3
        split at e
        · rename_i da va
          simp only [Option.map_eq_some_iff] at e
          obtain ⟨p, hp, e⟩ := e
          cases e
          refine op_kept I e1 fun x H1 S1 p1 l1 => ?_
          refine ⟨S1, E1, l, E2, p1.ok, e2, fun H2 S2 p2 => ?_⟩
          refine ⟨S2, E2, h, E', p2.ok, e3, fun H3 S3 p3 => ?_⟩
          have p13 := (p1.trans p2).trans p3
          exact prim_cut p13.sub ((l1.mono (p2.grow.trans p3.grow)).vw p13.ok va) hp fun v H' S' x r => op_end I q p13 x r
        · cases e
      · cases e
    · cases e
  · cases e

/-! ### built-ins -/
theorem so_blt {e : Expr} {cs : CEs} {f : Blt} {r : List V → Hp → VK → Prop} (h : PE X e (tCB r (tEs X.K C cs))) (pr : PrimC X.K r (bltD f)) : PE X e (tE X.K C (.blt f cs)) := by
  refine PE.imp h fun σ H Q ⟨S, E, rr, E', I, e, q⟩ => ?_
  unfold evE at e
  split at e
  · rename_i rs E1 e1
    split at e
    · rename_i ds va
      simp only [Option.map_eq_some_iff] at e
      obtain ⟨p, hp, e⟩ := e
      cases e
      refine ⟨S, E, rs, E', I, e1, fun vs H1 S1 p1 l1 => ?_⟩
      exact pr S1 H1 vs ds p Q p1.sub (l1.vws p1.ok va) hp fun v H' S' x r => op_end I q p1 x r
    · cases e
  · cases e

/-! ### methods that change nothing -/
theorem ty_join {d : D} (h : mthTy .join d = true) : ∃ s, d = .str s := by
  cases d <;> first | exact ⟨_, rfl⟩ | (simp [mthTy] at h)
theorem ty_get {d : D} (h : mthTy .get d = true) : ∃ kvs, d = .dct false kvs := by
  cases d with
  | dct t kvs => cases t <;> first | exact ⟨_, rfl⟩ | (simp [mthTy] at h)
  | _ => simp [mthTy] at h
theorem so_join {o e : Expr} {co : CE} {cs : CEs} {apos cpos : Pos} (hb : isBare o = false) (hs : isStar e = false) (hl : (apos.endLine == cpos.line) = true) (ho : PE X o (tE X.K C co)) (ha : PA X [e] (tEs X.K C cs)) :
    PE X (.Call (.Attribute o "join" apos) [e] [] cpos) (tE X.K C (.mth .join co cs)) := by
  refine PE.imp (pe_bm PySem.F.plainAttrs_str PySem.F.slot_str_join PySem.F.type_str_join cr_join ho ha (base_ok hb) ?_ hl (star_cons hs) ?_) fun σ H Q ⟨S, E, rr, E', I, e, q⟩ => ?_
  · rw [star_cons hs]; rfl
  · rfl
  · unfold evE at e
    split at e
    · rename_i ro E1 e1
      split at e
      · rename_i d0 v0
        split at e
        · rename_i ty
          split at e
          · rename_i rs E2 e2
            split at e
            · rename_i d ds va vs'
              simp only [Option.map_eq_some_iff] at e
              obtain ⟨p, hp, e⟩ := e
              cases e
              refine op_kept I e1 fun x H1 S1 p1 l1 => ?_
              refine ⟨?_, S1, E1, rs, E', p1.ok, e2, fun vs H2 S2 p2 l2 => ?_⟩
              · have h0 := l1.vw p1.ok v0
                obtain ⟨s, rfl⟩ := ty_join ty
                rw [h0.str]; rfl
              · have p12 := p1.trans p2
                exact (prim_join p12.sub ((l1.mono p2.grow).vw p12.ok va) (l2.vws p12.ok vs') hp fun v H' S' x r => op_end I q p12 x r).1
            · cases e
          · cases e
        · cases e
      · cases e
    · cases e
theorem so_get {o e : Expr} {co c : CE} {apos cpos : Pos} (hu : X.A.units + 1 < cLine) (hb : isBare o = false) (hs : isStar e = false) (hl : (apos.endLine == cpos.line) = true) (ho : PE X o (tE X.K C co)) (ha : PE X e (tE X.K C c)) :
    PE X (.Call (.Attribute o "get" apos) [e] [] cpos) (tE X.K C (.mth .get co (.cons c .nil))) := by
  have tr : starEach [e] X.env = [(false, eval e X.env)] := star_cons hs
  have m : M1 X o "get" apos e cpos := ⟨base_ok hb, by rw [tr]; rfl, hl, by rw [tr]; rfl⟩
  refine PE.imp (pe_dget1 hu ho ha m) fun σ H Q ⟨S, E, rr, E', I, e, q⟩ => ?_
  unfold evE at e
  split at e
  · rename_i ro E1 e1
    split at e
    · rename_i d0 v0
      split at e
      · rename_i ty
        split at e
        · rename_i rs E2 e2
          split at e
          · rename_i d ds va vs'
            simp only [Option.map_eq_some_iff] at e
            obtain ⟨p, hp, e⟩ := e
            cases e
            unfold evEs at e2
            split at e2
            · rename_i rk E3 e3
              unfold evEs at e2
              cases e2
              refine op_kept I e1 fun x H1 S1 p1 l1 => ?_
              have h0 := l1.vw p1.ok v0
              obtain ⟨kvs0, rfl⟩ := ty_get ty
              obtain ⟨a, es, rfl, ha', _⟩ := h0.dK p1.sub
              refine ⟨a, rfl, .inl ⟨es, .inl ha'⟩, ?_⟩
              refine op_kept p1.ok e3 fun y H2 S2 p2 l2 => ?_
              have p12 := p1.trans p2
              have vx := (l1.mono p2.grow).vw p12.ok va
              rw [List.mapM_cons] at vs'
              cases z : E'.vw rk.fz with
              | none => rw [z] at vs'; cases vs'
              | some dk =>
                rw [z] at vs'
                have vs' : some [dk] = some ds := vs'
                cases vs'
                have vy := l2.vw p12.ok z
                unfold mthD getB at hp
                simp only at hp
                split at hp
                · rename_i kvs k0 heq
                  cases heq
                  simp only [Option.bind_eq_some_iff] at hp
                  obtain ⟨k, hk, hp⟩ := hp
                  split at hp
                  · rename_i ok
                    cases hp
                    obtain ⟨b, o, ex, g, g1, g2⟩ := dget_rep p12.sub vx vy hk ok
                    cases ex
                    refine ⟨o, g, ?_⟩
                    cases w : kget k kvs with
                    | none =>
                      rw [w] at q
                      rw [g2 w]
                      exact op_end (p := .sc .non) I q p12 (.refl p12.sub) (.sc .non)
                    | some d =>
                      rw [w] at q
                      obtain ⟨v, rfl, rv⟩ := g1 d w
                      exact op_end (p := .sc d) I q p12 (.refl p12.sub) (.sc rv)
                  · cases hp
                · cases hp
            · cases e2
          · cases e
        · cases e
      · cases e
    · cases e
  · cases e

/-! ### methods that change their container, a slot's -/
/-- the end of such a method -/
theorem mut_end {S H S2 H2 : Hp} {σ : L2.St} {E E2 : Env} {i : Nat} {c c' r : D} {a : Addr} {o : HO} {v : V} {Q : VK} (p : Post X.K S H σ E S2 H2 σ E2) (g : E2.get i = .ow c) (es : σ[i]? = some (some (.ref a))) (h : OwnAt X.K S2 (some o) c') (rv : Rep X.K S2 r v)
    (q : ∀ v H' S', Post X.K S H σ E S' H' σ (E2.put i (.ow c')) → ResOk X.K S' H' H σ (E2.put i (.ow c')) v (.sh r) → Q v H') : Q v (upd H2 a o) :=
  q v _ S2 (p.trans (upd_ow p.ok g es h)) (.sh rv)
theorem own_lst {S H : Hp} {σ : L2.St} {E : Env} {i : Nat} {xs : List D} (I : EnvOk X.K S H σ E) (g : E.get i = .ow (.lst xs)) : ∃ a vs, σ[i]? = some (some (.ref a)) ∧ H a = some (.lst vs) ∧ RepL X.K S xs vs := by
  obtain ⟨a, e, _, o⟩ := I.ow i _ (.inl g)
  generalize z : H a = w at o
  cases o with
  | lst r => exact ⟨a, _, e, z, r⟩
theorem repL1 {K : PySem.W.Frag} {S : Hp} {d : D} {vs : List V} (h : RepL K S [d] vs) : ∃ v, vs = [v] ∧ Rep K S d v := by
  cases h with | cons a r => cases r; exact ⟨_, rfl, a⟩
theorem mutTy_lst {m : Mut} {c : D} (hm : m = .append ∨ m = .extend ∨ m = .pop) (h : mutTy m c = true) : ∃ xs, c = .lst xs := by
  rcases hm with rfl | rfl | rfl <;> cases c <;> first | exact ⟨_, rfl⟩ | (simp [mutTy] at h)
/-- a list's method of one argument -/
theorem so_mut1 (O : Ok X N sc C F n) {x : Str} {i : Nat} {id : String} {name : Str} {e : Expr} {cs : CEs} {m : Mut} {r : V → List V → Hp → VK → Prop} {p apos cpos : Pos} (hx : slot N x = some i) (hv : vis sc x = true) (hd : (x == ("__debug__" : Str)) = false) (hc : (x == ("__classdict__" : Str)) = false)
    (slt : Slot "list" name id) (hty : typeOf (.builtin id) = pure (.type "method_descriptor")) (hm : MtR X id r) (hs : isStar e = false) (hl : (apos.endLine == cpos.line) = true) (ha : PA X [e] (tEs X.K C cs))
    (hml : m = .append ∨ m = .extend ∨ m = .pop)
    (key : ∀ (S H : Hp) (l : Addr) (us vs : List V) (xs ds : List D) (rd c' : D) (Q : VK), Same S H → H l = some (.lst us) → RepL X.K S xs us → RepL X.K S ds vs → mutD m (.lst xs) ds = some (rd, c') →
      (∀ v o, OwnAt X.K S (some o) c' → Rep X.K S rd v → Q v (upd H l o)) → r (.ref l) vs H Q) :
    PE X (.Call (.Attribute (.Name x p) name apos) [e] [] cpos) (tE X.K C (.mut m i cs)) := by
  have hN : X.N[i]? = some x := by rw [O.eN]; exact slot_ok hx
  refine PE.imp (pe_bm PySem.F.plainAttrs_list slt hty hm (pe_var hN (O.vis hv) hd hc) ha (base_ok rfl) ?_ hl (star_cons hs) ?_) fun σ H Q ⟨S, E, rr, E', I, e, q⟩ => ?_
  · rw [star_cons hs]; rfl
  · rfl
  · unfold evE at e
    split at e
    · rename_i c0 g0
      split at e
      · rename_i ty
        split at e
        · rename_i rs E1 e1
          split at e
          · rename_i ds E2 e2
            split at e
            · rename_i c g
              split at e
              · rename_i rd c' hmu
                cases e
                obtain ⟨xs0, rfl⟩ := mutTy_lst hml ty
                obtain ⟨a, us0, es, ha0, _⟩ := own_lst I g0
                refine ⟨_, es, .inl ⟨rfl, _, .of ha0⟩, S, E, rs, E1, I, e1, fun vs H1 S1 p1 l1 => ?_⟩
                obtain ⟨S2, p2, rep⟩ := l1.tks p1.ok e2
                have p12 := p1.trans p2
                have hc' : ∃ xs, c = .lst xs := by
                  rcases hml with rfl | rfl | rfl
                  · unfold mutD appendB at hmu; simp only at hmu; split at hmu <;> first | exact ⟨_, rfl⟩ | cases hmu
                  · unfold mutD extendB at hmu; simp only at hmu; split at hmu <;> first | exact ⟨_, rfl⟩ | cases hmu
                  · unfold mutD popB at hmu; simp only at hmu; split at hmu <;> first | exact ⟨_, rfl⟩ | cases hmu
                obtain ⟨xs, rfl⟩ := hc'
                obtain ⟨a', us, es', ha', ru⟩ := own_lst p12.ok g
                rw [es] at es'; cases es'
                exact key S2 H1 a us vs xs ds rd c' Q p12.sub ha' ru rep hmu fun v o ho rv => mut_end p12 g es ho rv q
              · cases e
            · cases e
          · cases e
        · cases e
      · cases e
    · cases e
theorem so_append (O : Ok X N sc C F n) {x : Str} {i : Nat} {e : Expr} {cs : CEs} {p apos cpos : Pos} (hx : slot N x = some i) (hv : vis sc x = true) (hd : (x == ("__debug__" : Str)) = false) (hc : (x == ("__classdict__" : Str)) = false)
    (hs : isStar e = false) (hl : (apos.endLine == cpos.line) = true) (ha : PA X [e] (tEs X.K C cs)) : PE X (.Call (.Attribute (.Name x p) "append" apos) [e] [] cpos) (tE X.K C (.mut .append i cs)) :=
  so_mut1 O hx hv hd hc PySem.F.slot_list_append PySem.F.type_list_append mt_append hs hl ha (.inl rfl) fun S H l us vs xs ds rd c' Q e hl ru rv hm q => by
    unfold mutD appendB at hm
    simp only at hm
    split at hm
    · rename_i xs' d heq
      cases heq
      split at hm
      · rename_i hz
        cases hm
        obtain ⟨v, rfl, hr⟩ := repL1 rv
        refine ⟨l, us, v, rfl, rfl, hl, ?_, q _ _ (.lst (ru.append (.cons hr .nil))) .non⟩
        rw [← ru.length, ← big_eq]; exact hz
      · cases hm
    · cases hm
theorem so_extend (O : Ok X N sc C F n) {x : Str} {i : Nat} {e : Expr} {cs : CEs} {p apos cpos : Pos} (hx : slot N x = some i) (hv : vis sc x = true) (hd : (x == ("__debug__" : Str)) = false) (hc : (x == ("__classdict__" : Str)) = false)
    (hs : isStar e = false) (hl : (apos.endLine == cpos.line) = true) (ha : PA X [e] (tEs X.K C cs)) : PE X (.Call (.Attribute (.Name x p) "extend" apos) [e] [] cpos) (tE X.K C (.mut .extend i cs)) :=
  so_mut1 O hx hv hd hc PySem.F.slot_list_extend PySem.F.type_list_extend mt_extend hs hl ha (.inr (.inl rfl)) fun S H l us vs xs ds rd c' Q e hl ru rv hm q => by
    unfold mutD extendB at hm
    simp only at hm
    split at hm
    · rename_i xs' ys heq
      cases heq
      split at hm
      · rename_i hz
        cases hm
        obtain ⟨v, rfl, hr⟩ := repL1 rv
        cases hr with
        | lst hb rb =>
          refine ⟨l, _, us, _, rfl, rfl, hl, e _ _ hb, ?_, q _ _ (.lst (ru.append rb)) .non⟩
          rw [← ru.length, ← rb.length, ← big_eq]; exact hz
      · cases hm
    · cases hm
theorem so_pop (O : Ok X N sc C F n) {x : Str} {i : Nat} {p apos cpos : Pos} (hx : slot N x = some i) (hv : vis sc x = true) (hd : (x == ("__debug__" : Str)) = false) (hc : (x == ("__classdict__" : Str)) = false)
    (hl : (apos.endLine == cpos.line) = true) : PE X (.Call (.Attribute (.Name x p) "pop" apos) [] [] cpos) (tE X.K C (.mut .pop i .nil)) := by
  have hN : X.N[i]? = some x := by rw [O.eN]; exact slot_ok hx
  refine PE.imp (pe_bm0 PySem.F.plainAttrs_list PySem.F.slot_list_pop PySem.F.type_list_pop mt_pop (pe_var hN (O.vis hv) hd hc) (base_ok rfl) hl) fun σ H Q ⟨S, E, rr, E', I, e, q⟩ => ?_
  unfold evE at e
  split at e
  · rename_i c0 g0
    split at e
    · rename_i ty
      split at e
      · rename_i rs E1 e1
        split at e
        · rename_i ds E2 e2
          split at e
          · rename_i c g
            split at e
            · rename_i rd c' hmu
              cases e
              unfold evEs at e1
              cases e1
              unfold Env.tks at e2
              cases e2
              rw [g0] at g; cases g
              obtain ⟨xs, rfl⟩ := mutTy_lst (.inr (.inr rfl)) ty
              obtain ⟨a, us, es, ha, ru⟩ := own_lst I g0
              refine ⟨_, es, .inl ⟨rfl, _, .of ha⟩, ?_⟩
              unfold mutD popB at hmu
              simp only [Option.map_eq_some_iff] at hmu
              obtain ⟨y, hy, hmu⟩ := hmu
              cases hmu
              rw [List.getLast?_eq_getElem?] at hy
              obtain ⟨v, hv, rv⟩ := ru.get hy
              refine ⟨a, us, v, rfl, rfl, ha, by rw [← ru.length]; exact hv, ?_⟩
              exact mut_end (.refl I) g0 es (.lst ru.dropLast) rv q
            · cases e
          · cases e
        · cases e
      · cases e
    · cases e
  · cases e
end
end Fi
end

section
/-! FiG: calls of the program's own defs. Own work. -/
namespace Fi
open PySem PySem.Spec L2
variable [J : HW]

inductive AOk (K : PySem.W.Frag) (S : Hp) (σ : L2.St) : V → Ar → Prop
  | sh {v : V} {d : D} : Rep K S d v → AOk K S σ v (.sh d)
  | ow {v : V} {i : Nat} {d : D} : σ[i]? = some (some v) → AOk K S σ v (.ow i d)
inductive AsOk (K : PySem.W.Frag) (S : Hp) (σ : L2.St) : List V → List Ar → Prop
  | nil : AsOk K S σ [] []
  | cons {v : V} {a : Ar} {vs : List V} {as : List Ar} : AOk K S σ v a → AsOk K S σ vs as → AsOk K S σ (v :: vs) (a :: as)
section
variable {K : PySem.W.Frag} {S S' H H' : Hp} {σ : L2.St} {E E1 E2 : Env}
theorem tk_ows {r : Rs} {d : D} (h : E.tk r = some (d, E1)) {i : Nat} {c : D} (g : E1.get i = .ow c) : E.get i = .ow c := by
  cases r with
  | sh _ => cases h; exact g
  | ow _ => cases h; exact g
  | pk j =>
    cases z : E.get j with
    | un => simp only [Env.tk, z] at h; cases h
    | lk _ => simp only [Env.tk, z] at h; cases h
    | sh _ => simp only [Env.tk, z] at h; cases h; exact g
    | ow x =>
      simp only [Env.tk, z] at h; cases h
      rw [get_put] at g
      split at g
      · cases g
      · exact g
theorem argsOf_ok {bs : List Bool} {rs : List Rs} : ∀ {S : Hp} {E : Env} {vs : List V} {as : List Ar} {E2 : Env}, EnvOk K S H σ E → LsOk K S σ vs rs → argsOf E bs rs = some (as, E2) →
    ∃ S2, Post K S H σ E S2 H σ E2 ∧ AsOk K S2 σ vs as ∧ (∀ i d, Ar.ow i d ∈ as → ∀ c, E2.get i = .ow c → c = d) ∧ (∀ i c, E2.get i = .ow c → E.get i = .ow c) := by
  induction rs generalizing bs with
  | nil =>
    intro S E vs as E2 I l h
    cases l
    cases bs with
    | nil => cases h; exact ⟨S, .refl I, .nil, fun _ _ z => (by cases z), fun _ _ g => g⟩
    | cons b bs => cases b <;> cases h
  | cons r rs ih =>
    intro S E vs as E2 I l h
    cases l with
    | @cons v _ vs _ la lr =>
      cases bs with
      | nil => cases h
      | cons b bs =>
        cases b with
        | true =>
          cases r with
          | sh _ => cases h
          | ow _ => cases h
          | pk i =>
            simp only [argsOf] at h
            split at h
            · rename_i d g
              split at h
              · rename_i as' E3 e
                cases h
                obtain ⟨S2, p, ok, q1, q2⟩ := ih I lr e
                refine ⟨S2, p, .cons (.ow (by cases la with | pk z => exact z)) ok, fun j d' hm c gc => ?_, q2⟩
                rcases List.mem_cons.mp hm with z | z
                · cases z
                  have := q2 i c gc
                  rw [g] at this; cases this; rfl
                · exact q1 j d' z c gc
              · cases h
            · cases h
        | false =>
          simp only [argsOf] at h
          split at h
          · rename_i d E1 e1
            split at h
            · rename_i as' E3 e
              cases h
              obtain ⟨S1, p1, rep⟩ := la.tk I e1
              obtain ⟨S2, p, ok, q1, q2⟩ := ih p1.ok (lr.mono p1.grow) e
              refine ⟨S2, p1.trans p, .cons (.sh (rep.mono p.grow)) ok, fun j d' hm c gc => ?_, fun j c gc => tk_ows e1 (q2 j c gc)⟩
              rcases List.mem_cons.mp hm with z | z
              · cases z
              · exact q1 j d' z c gc
            · cases h
          · cases h
theorem mem_lent {as : List Ar} {i : Nat} : i ∈ lent as ↔ ∃ d, Ar.ow i d ∈ as := by
  induction as with
  | nil => simp [lent]
  | cons a as ih =>
    cases a with
    | sh d => simp [lent, ih]
    | ow j d =>
      simp only [lent, List.mem_cons, ih]
      constructor
      · rintro (rfl | ⟨d', h⟩)
        · exact ⟨d, .inl rfl⟩
        · exact ⟨d', .inr h⟩
      · rintro ⟨d', h | h⟩
        · cases h; exact .inl rfl
        · exact .inr ⟨d', h⟩
theorem AsOk.len {vs : List V} {as : List Ar} (h : AsOk K S σ vs as) : vs.length = as.length := by
  induction h with
  | nil => rfl
  | cons _ _ ih => simp [ih]
theorem AsOk.get {vs : List V} {as : List Ar} (h : AsOk K S σ vs as) : ∀ {k : Nat} {a : Ar}, as[k]? = some a → ∃ v, vs[k]? = some v ∧ AOk K S σ v a := by
  induction h with
  | nil => intro k a e; simp at e
  | @cons v a vs as h1 h2 ih =>
    intro k b e
    cases k with
    | zero => simp at e; subst e; exact ⟨v, rfl, h1⟩
    | succ k => simpa using ih (by simpa using e)
theorem lent_nodup {as : List Ar} (h : (lent as).Nodup) : ∀ {k m i : Nat} {d d' : D}, as[k]? = some (.ow i d) → as[m]? = some (.ow i d') → k = m := by
  induction as with
  | nil => intro k m i d d' e; simp at e
  | cons a as ih =>
    intro k m i d d' e f
    have nh : (lent as).Nodup := by
      cases a with
      | sh _ => exact h
      | ow _ _ => exact (List.nodup_cons.mp h).2
    cases k with
    | zero =>
      cases m with
      | zero => rfl
      | succ m =>
        simp at e f
        subst e
        exact absurd (mem_lent.mpr ⟨d', List.mem_of_getElem? f⟩) (List.nodup_cons.mp h).1
    | succ k =>
      cases m with
      | zero =>
        simp at e f
        subst f
        exact absurd (mem_lent.mpr ⟨d, List.mem_of_getElem? e⟩) (List.nodup_cons.mp h).1
      | succ m => exact congrArg (· + 1) (ih nh (i := i) (d := d) (d' := d') (by simpa using e) (by simpa using f))
/-- the containers behind the call, slot by slot -/
theorem behind_get {as : List Ar} : ∀ {ss : List Sl} {i : Nat}, i ∉ lent as → (behind E as ss).get i = E.get i := by
  induction as with
  | nil => intro ss i h; cases ss <;> rfl
  | cons a as ih =>
    intro ss i h
    cases a with
    | sh d =>
      cases ss with
      | nil => rfl
      | cons s ss => exact ih (ss := ss) h
    | ow j d =>
      cases ss with
      | nil => rfl
      | cons s ss =>
        have hij : i ≠ j := by rintro rfl; exact h List.mem_cons_self
        show ((behind E as ss).put j s).get i = _
        rw [get_put_ne hij]
        exact ih (ss := ss) fun z => h (List.mem_cons_of_mem _ z)
theorem behind_len {as : List Ar} : ∀ {ss : List Sl}, (behind E as ss).sl.length = E.sl.length ∧ (behind E as ss).ro = E.ro := by
  induction as with
  | nil => intro ss; cases ss <;> exact ⟨rfl, rfl⟩
  | cons a as ih =>
    intro ss
    cases a with
    | sh d =>
      cases ss with
      | nil => exact ⟨rfl, rfl⟩
      | cons s ss => exact ih (ss := ss)
    | ow j d =>
      cases ss with
      | nil => exact ⟨rfl, rfl⟩
      | cons s ss => exact ⟨put_len.trans (ih (ss := ss)).1, (ih (ss := ss)).2⟩
theorem behind_at {as : List Ar} : ∀ {ss : List Sl}, (lent as).Nodup → ss.length = as.length → ∀ {k i : Nat} {d : D} {s : Sl}, as[k]? = some (.ow i d) → ss[k]? = some s → i < E.sl.length → (behind E as ss).get i = s := by
  induction as with
  | nil => intro ss _ _ k i d s e; simp at e
  | cons a as ih =>
    intro ss nd hl k i d s e f hi
    cases ss with
    | nil => simp at hl
    | cons s0 ss =>
      have hl' : ss.length = as.length := by simpa using hl
      cases a with
      | sh d0 =>
        cases k with
        | zero => simp at e
        | succ k => exact ih (ss := ss) nd hl' (by simpa using e) (by simpa using f) hi
      | ow j d0 =>
        obtain ⟨n1, n2⟩ := List.nodup_cons.mp nd
        show ((behind E as ss).put j s0).get i = s
        cases k with
        | zero =>
          simp at e f
          obtain ⟨rfl, rfl⟩ := e
          subst f
          exact get_put_same (by rw [behind_len.1]; exact hi)
        | succ k =>
          simp at e f
          have hij : i ≠ j := by
            rintro rfl
            exact n1 (mem_lent.mpr ⟨d, List.mem_of_getElem? e⟩)
          rw [get_put_ne hij]
          exact ih (ss := ss) n2 hl' e f hi
theorem lentOk_of {as : List Ar} (h : lentOk E as = true) : (lent as).Nodup ∧ ∀ i ∈ lent as, ∃ c, E.get i = .ow c := by
  unfold lentOk at h
  simp only [Bool.and_eq_true, decide_eq_true_eq, List.all_eq_true] at h
  refine ⟨h.2, fun i hi => ?_⟩
  have := h.1 i hi
  split at this
  · rename_i c z; exact ⟨c, z⟩
  · cases this
/-- the arguments, as the callee has them -/
theorem args_ok {vs : List V} {as : List Ar} (I : EnvOk K S H σ E) (a : AsOk K S σ vs as) (ok : lentOk E as = true) (q : ∀ i d, Ar.ow i d ∈ as → ∀ c, E.get i = .ow c → c = d) : ArgsOk K S H vs (as.map Ar.pass) := by
  obtain ⟨nd, ow⟩ := lentOk_of ok
  have at_ : ∀ {k : Nat} {d : D}, (as.map Ar.pass)[k]? = some (true, d) → ∃ i, as[k]? = some (.ow i d) := fun {k d} h => by
    rw [List.getElem?_map] at h
    cases z : as[k]? with
    | none => rw [z] at h; cases h
    | some x =>
      rw [z] at h
      cases x with
      | sh _ => cases h
      | ow i d' => cases h; exact ⟨i, rfl⟩
  refine ⟨I.sub, by rw [List.length_map]; exact a.len, fun k d h => ?_, fun k d h => ?_, fun k m d e b h1 h2 e1 e2 => ?_⟩
  · rw [List.getElem?_map] at h
    cases z : as[k]? with
    | none => rw [z] at h; cases h
    | some x =>
      rw [z] at h
      cases x with
      | ow _ _ => cases h
      | sh d' =>
        cases h
        obtain ⟨v, hv, r⟩ := a.get z
        cases r with
        | sh r => exact ⟨v, hv, r⟩
  · obtain ⟨i, z⟩ := at_ h
    obtain ⟨v, hv, r⟩ := a.get z
    cases r with
    | ow es =>
      have hm := List.mem_of_getElem? z
      obtain ⟨c, g⟩ := ow i (mem_lent.mpr ⟨d, hm⟩)
      have := q i d hm c g
      subst this
      obtain ⟨b, e1, s, o⟩ := I.ow i c (.inl g)
      rw [es] at e1; cases e1
      exact ⟨b, hv, s, o⟩
  · obtain ⟨i, z⟩ := at_ h1
    obtain ⟨j, y⟩ := at_ h2
    obtain ⟨v, hv, r⟩ := a.get z
    obtain ⟨u, hu, r'⟩ := a.get y
    rw [e1] at hv; cases hv
    rw [e2] at hu; cases hu
    cases r with
    | ow es =>
      cases r' with
      | ow es' =>
        obtain ⟨c, g⟩ := ow i (mem_lent.mpr ⟨d, List.mem_of_getElem? z⟩)
        obtain ⟨c', g'⟩ := ow j (mem_lent.mpr ⟨e, List.mem_of_getElem? y⟩)
        have hij := I.inj i j b ⟨c, .inl g⟩ ⟨c', .inl g'⟩ es es'
        subst hij
        exact lent_nodup nd z y
/-- behind the call -/
theorem call_post {vs : List V} {as : List Ar} {S' H' : Hp} {v : V} {r : Rs} {ss : List Sl} (I : EnvOk K S H σ E) (a : AsOk K S σ vs as) (ok : lentOk E as = true) (q : ∀ i d, Ar.ow i d ∈ as → ∀ c, E.get i = .ow c → c = d)
    (p : CallPost K S H vs (as.map Ar.pass) S' H' v r ss) : Post K S H σ E S' H' σ (behind E as ss) ∧ ResOk K S' H' H σ (behind E as ss) v r := by
  obtain ⟨nd, ow⟩ := lentOk_of ok
  have hl : ss.length = as.length := by have := p.len; rwa [List.length_map] at this
  -- a lent slot
  have lt : ∀ i, i ∈ lent as → ∃ (k : Nat) (d : D) (b : Addr) (s : Sl), as[k]? = some (Ar.ow i d) ∧ σ[i]? = some (some (.ref b)) ∧ FinOk K S' H' b s ∧ (behind E as ss).get i = s ∧ Lent vs (as.map Ar.pass) b := fun i hi => by
    obtain ⟨d, hm⟩ := mem_lent.mp hi
    obtain ⟨k, hk⟩ := List.mem_iff_getElem?.mp hm
    obtain ⟨c, g⟩ := ow i hi
    obtain ⟨u, hu, ra⟩ := a.get hk
    cases ra with
    | ow es =>
      obtain ⟨b, e1, _, _⟩ := I.ow i c (.inl g)
      rw [es] at e1; cases e1
      have hp : (as.map Ar.pass)[k]? = some (true, d) := by rw [List.getElem?_map, hk]; rfl
      obtain ⟨s, hs, fin⟩ := p.fin k d b hp hu
      exact ⟨k, d, b, s, hk, es, fin, behind_at nd hl hk hs (get_lt g (by simp)), ⟨k, d, hp, hu⟩⟩
  have lentI : ∀ b, Lent vs (as.map Ar.pass) b → ∃ i ∈ lent as, σ[i]? = some (some (.ref b)) := fun b ⟨k, d, hp, hu⟩ => by
    rw [List.getElem?_map] at hp
    cases z : as[k]? with
    | none => rw [z] at hp; cases hp
    | some x =>
      rw [z] at hp
      cases x with
      | sh _ => cases hp
      | ow i d' =>
        cases hp
        obtain ⟨u, hu', ra⟩ := a.get z
        rw [hu] at hu'; cases hu'
        cases ra with
        | ow es => exact ⟨i, mem_lent.mpr ⟨d, List.mem_of_getElem? z⟩, es⟩
  have isow : ∀ i, (behind E as ss).isOw i → E.isOw i := fun i h => by
    by_cases hi : i ∈ lent as
    · obtain ⟨c, g⟩ := ow i hi; exact ⟨c, .inl g⟩
    · obtain ⟨d, h⟩ := h; rw [behind_get hi] at h; exact ⟨d, h⟩
  have nlent : ∀ i b, i ∉ lent as → E.isOw i → σ[i]? = some (some (.ref b)) → ¬ Lent vs (as.map Ar.pass) b := fun i b hi hw e hL => by
    obtain ⟨j, hj, ej⟩ := lentI b hL
    obtain ⟨c, g⟩ := ow j hj
    exact hi (by rw [I.inj i j b hw ⟨c, .inl g⟩ e ej]; exact hj)
  have ownL : ∀ b, Lent vs (as.map Ar.pass) b → Own σ E b := fun b hL => by
    obtain ⟨j, hj, ej⟩ := lentI b hL
    obtain ⟨c, g⟩ := ow j hj
    exact ⟨j, ⟨c, .inl g⟩, ej⟩
  have P : Post K S H σ E S' H' σ (behind E as ss) := by
    refine ⟨⟨p.sub, by rw [behind_len.1]; exact I.len, fun i d h => ?_, fun i d h => ?_, fun i j b hi hj => I.inj i j b (isow i hi) (isow j hj), fun i hi => ?_⟩, p.grow, fun b o n e => p.frame b o (fun z => n (ownL b z)) e, fun b o n e s => p.keepS b o (fun z => n (ownL b z)) e s, p.dom, fun b ⟨i, hi, e⟩ => .inl ⟨i, isow i hi, e⟩, behind_len.2, fun _ _ => rfl, fun i d h => ?_⟩
    · by_cases hi : i ∈ lent as
      · obtain ⟨k, d', b, s, _, es, fin, g, _⟩ := lt i hi
        rw [g] at h; subst h
        cases fin with
        | sh r _ => exact ⟨_, es, r⟩
      · rw [behind_get hi] at h
        obtain ⟨u, e, r⟩ := I.sh i d h
        exact ⟨u, e, r.mono p.grow⟩
    · by_cases hi : i ∈ lent as
      · obtain ⟨k, d', b, s, _, es, fin, g, _⟩ := lt i hi
        rw [g] at h
        cases fin with
        | ow s o =>
          rcases h with h | h <;> cases h
          exact ⟨b, es, s, o⟩
        | sh _ _ => rcases h with h | h <;> cases h
      · rw [behind_get hi] at h
        obtain ⟨b, e, s, o⟩ := I.ow i d h
        have nl := nlent i b hi ⟨d, h⟩ e
        obtain ⟨x, ex⟩ := o.some
        refine ⟨b, e, p.keepS b x nl ex s, ?_⟩
        rw [p.frame b x nl ex]
        rw [ex] at o
        exact o.mono p.grow
    · rw [behind_len.2] at hi
      obtain ⟨b, e, h⟩ := I.ro i hi
      refine ⟨b, e, ?_⟩
      by_cases hL : i ∈ lent as
      · obtain ⟨k, d', b', s, _, es, fin, g, _⟩ := lt i hL
        rw [e] at es; cases es
        cases fin with
        | ow _ _ => exact .inl ⟨_, .inl g⟩
        | sh _ n => exact .inr n
      · rcases h with ⟨d, h⟩ | h
        · exact .inl ⟨d, by rw [behind_get hL]; exact h⟩
        · right
          cases z : S b with
          | none => exact absurd z h
          | some y => rw [p.grow b y z]; simp
    · have hi : i ∉ lent as := fun z => by
        obtain ⟨c, g⟩ := ow i z
        rw [g] at h; cases h
      rw [behind_get hi]; exact ⟨h, rfl⟩
  refine ⟨P, ?_⟩
  cases p.give with
  | sh r => exact .sh r
  | ow e n s o =>
    refine .ow e n s o fun ⟨i, hi, es⟩ => ?_
    obtain ⟨c, hc⟩ := isow i hi
    obtain ⟨b, e', _, o'⟩ := I.ow i c hc
    rw [es] at e'; cases e'
    obtain ⟨x, ex⟩ := o'.some
    rw [n] at ex; cases ex
end

section
variable {X : Cx} {N : List Str} {sc W : Nms} {C : Ctx} {F : List (Str × Nat)} {n : Nat}
theorem mapM_len {α β : Type} (f : α → Option β) : ∀ {l : List α} {r : List β}, l.mapM f = some r → r.length = l.length := by
  intro l
  induction l with
  | nil => intro r h; simp at h; subst h; rfl
  | cons a l ih =>
    intro r h
    rw [List.mapM_cons] at h
    cases z : f a with
    | none => rw [z] at h; cases h
    | some b =>
      rw [z] at h
      cases y : l.mapM f with
      | none => rw [y] at h; cases h
      | some r' => rw [y] at h; have h : some (b :: r') = some r := h; cases h; simp [ih y]
theorem evEs_len {es : List Expr} {cs : CEs} : ∀ {E E1 : Env} {rs : List Rs}, evEs C cs E = some (rs, E1) → True := fun _ => trivial
/-- f(..), f a def of the program's own -/
theorem call_read {f : Str} {m : Nat} {cs : CEs} {t : TA} {σ : L2.St} {H : Hp} {Q : VK} (ht : ∀ R, tEs X.K C cs σ H R → t σ H R) (h : tE X.K C (.call f cs) σ H Q) (len : ∀ E rs E1, evEs C cs E = some (rs, E1) → rs.length = m) :
    tCall (spD X.K (C.call f) m) [] E0 t σ H Q := by
  obtain ⟨S, E, rr, E', I, e, q⟩ := h
  unfold evE at e
  split at e
  · rename_i rs E1 e1
    split at e
    · rename_i as E2 e2
      split at e
      · rename_i ok
        split at e
        · rename_i r ss e3
          cases e
          refine ht _ ⟨S, E, rs, E1, I, e1, fun vs H1 S1 p1 l1 => ?_⟩
          obtain ⟨S2, p2, aok, q1, _⟩ := argsOf_ok p1.ok l1 e2
          have p12 := p1.trans p2
          rw [List.append_nil]
          refine ⟨by rw [l1.len]; exact len E rs E1 e1, S2, _, _, _, args_ok p2.ok aok ok q1, e3, fun v H' S' cp => ?_⟩
          obtain ⟨p3, rok⟩ := call_post p2.ok aok ok q1 cp
          exact q v H' S' (p12.trans p3) (rok.from p12.dom)
        · cases e
      · cases e
    · cases e
  · cases e
def CEs.len : CEs → Nat
  | .nil => 0
  | .cons _ r => r.len + 1
theorem evEs_length : ∀ (cs : CEs) (E : Env) (rs : List Rs) (E1 : Env), evEs C cs E = some (rs, E1) → rs.length = cs.len
  | .nil, E, rs, E1, h => by unfold evEs at h; cases h; rfl
  | .cons c cs, E, rs, E1, h => by
    unfold evEs at h
    split at h
    · split at h
      · rename_i e2
        cases h
        simp [CEs.len, evEs_length cs _ _ _ e2]
      · cases h
    · cases h
theorem so_call (O : Ok X N sc C F n) {f : Str} {m : Nat} {e : Expr} {es : List Expr} {cs : CEs} {p pos : Pos} (hf : F.lookup f = some m) (hg : sc.lookup f = some .globalImplicit) (hd : (f == ("__debug__" : Str)) = false) (hs : isStar e = false) (hss : es.all (fun e => !isStar e) = true) (hm : cs.len = m) (ha : PA X (e :: es) (tEs X.K C cs)) :
    PE X (.Call (.Name f p) (e :: es) [] pos) (tE X.K C (.call f cs)) := by
  obtain ⟨fa, fd, ps, mg, kp, hb, fn⟩ := O.funs f m hf
  refine PE.imp (pe_call fn O.room (O.gl hg) mg kp hb .nil pass0 ha hd (star_cons hs) (star_any hss)) fun σ H Q h => ?_
  exact call_read (fun R r => r) h fun E rs E1 e1 => by rw [← hm]; exact evEs_length cs E rs E1 e1
theorem so_call0 (O : Ok X N sc C F n) {f : Str} {p pos : Pos} (hf : F.lookup f = some 0) (hg : sc.lookup f = some .globalImplicit) (hd : (f == ("__debug__" : Str)) = false) :
    PE X (.Call (.Name f p) [] [] pos) (tE X.K C (.call f .nil)) := by
  obtain ⟨fa, fd, ps, mg, kp, hb, fn⟩ := O.funs f 0 hf
  refine PE.imp (pe_call0 fn O.room (O.gl hg) mg kp hb .nil pass0 hd) fun σ H Q h => ?_
  refine call_read (fun R ⟨S, E, rs, E', I, e, q⟩ => ?_) h fun E rs E1 e1 => by unfold evEs at e1; cases e1; rfl
  unfold evEs at e
  cases e
  exact q [] H S (.refl I) .nil
end
end Fi
end

section
/-! FiH: what is walked, targets, comprehensions. Own work. -/
namespace Fi
open PySem PySem.Spec L2
variable [J : HW]

/-! ### what is walked -/
structure WalkOk (K : PySem.W.Frag) (J : It) (S0 : Hp) (G : Hp → Hp → Prop) (ds : List D) : Prop where
  step : ∀ (S H : Hp) (i : Nat) (d : D), Same S0 S → Same S H → G S H → ds[i]? = some d → J.go i H ∧ ∀ x H', J.yld i H x H' → ∃ S', Ext S H S' H' ∧ Rep K S' d x
  stop : ∀ (S H : Hp), Same S0 S → Same S H → G S H → J.stop ds.length H
/-- the locked slot stands as it stood -/
def LockIn (E' : Env) (σ : L2.St) (E'' : Env) (σ'' : L2.St) (l : Option (Nat × Bool)) : Prop :=
  ∀ i b, l = some (i, b) → ∀ d, E'.get i = .lk d → E''.get i = .lk d ∧ σ''[i]? = σ[i]?
def tI (K : PySem.W.Frag) (C : Ctx) (c : IT) : TI := fun σ H R => ∃ S E ds l E', EnvOk K S H σ E ∧ evI C c E = some (ds, l, E') ∧
  ∀ J H' S', Post K S H σ E S' H' σ E' → (∃ G, WalkOk K J S' G ds ∧ ∀ S'' H'' σ'' E'', EnvOk K S'' H'' σ'' E'' → Same S' S'' → LockIn E' σ E'' σ'' l → G S'' H'') →
    (∀ i b, l = some (i, b) → ∃ d, E'.get i = .lk d) → (∀ i, l = some (i, true) → ∀ d, E.get i ≠ .lk d) → R J H'
section
variable {X : Cx} {N : List Str} {sc W : Nms} {C : Ctx} {F : List (Str × Nat)} {n : Nat} {tg : Expr}
theorem walk_list {K : PySem.W.Frag} {S0 : Hp} {a : Addr} {vs : List V} {ds : List D} (r : RepL K S0 ds vs) {G : Hp → Hp → Prop} (g : ∀ S H, Same S0 S → Same S H → G S H → ∃ vs', H a = some (.lst vs') ∧ RepL K S ds vs') : WalkOk K (Itl K a) S0 G ds := by
  refine ⟨fun S H i d s0 s1 hg hd => ?_, fun S H s0 s1 hg => ?_⟩
  · obtain ⟨vs', hv, r'⟩ := g S H s0 s1 hg
    obtain ⟨x, hx, rx⟩ := r'.get hd
    refine ⟨⟨vs', x, .of hv, hx⟩, fun y H' hy => ?_⟩
    obtain ⟨rfl, hy⟩ := hy
    have := hy vs' (.of hv)
    rw [hx] at this; cases this
    exact ⟨S, .refl s1, rx⟩
  · obtain ⟨vs', hv, r'⟩ := g S H s0 s1 hg
    exact ⟨vs', .of hv, by rw [r'.length]; exact Nat.le_refl _⟩
theorem walk_tup {K : PySem.W.Frag} {S0 H0 : Hp} {a : Addr} {vs : List V} {ds : List D} (h : SqT K S0 a vs) (r : RepL K S0 ds vs) : WalkOk K (Itt K a) S0 (fun _ _ => True) ds := by
  refine ⟨fun S H i d s0 s1 hg hd => ?_, fun S H s0 s1 hg => ?_⟩
  · obtain ⟨x, hx, rx⟩ := r.get hd
    have hH := sqT_mono (s0.trans s1) h
    refine ⟨⟨vs, x, hH, hx⟩, fun y H' hy => ?_⟩
    obtain ⟨rfl, hy⟩ := hy
    have := hy vs hH
    rw [hx] at this; cases this
    exact ⟨S, .refl s1, rx.mono s0⟩
  · exact ⟨vs, sqT_mono (s0.trans s1) h, by rw [r.length]; exact Nat.le_refl _⟩
theorem walk_str {K : PySem.W.Frag} {S0 : Hp} {xs : Txt} : WalkOk K (Its (strOf xs)) S0 (fun _ _ => True) (xs.map fun c => .str [c]) := by
  refine ⟨fun S H i d s0 s1 hg hd => ?_, fun S H s0 s1 hg => ?_⟩
  · rw [List.getElem?_map] at hd
    cases z : xs[i]? with
    | none => rw [z] at hd; cases hd
    | some c =>
      rw [z] at hd; cases hd
      have hc : (strOf xs).cps[i]? = some c := by simp [strOf, z]
      refine ⟨?_, fun y H' hy => ?_⟩
      · show i < (strOf xs).cps.size
        have := (List.getElem?_eq_some_iff.mp z).1
        simpa [strOf] using this
      · obtain ⟨rfl, c', hc', rfl⟩ := hy
        rw [hc] at hc'; cases hc'
        exact ⟨S, .refl s1, .str [c]⟩
  · show (strOf xs).cps.size ≤ _
    simp [strOf]
theorem walk_rng {K : PySem.W.Frag} {S0 : Hp} (lo : Int) (n : Nat) : WalkOk K (Itr lo n) S0 (fun _ _ => True) ((List.range n).map fun (k : Nat) => .int (lo + k)) := by
  refine ⟨fun S H i d s0 s1 hg hd => ?_, fun S H s0 s1 hg => ?_⟩
  · rw [List.getElem?_map] at hd
    cases z : (List.range n)[i]? with
    | none => rw [z] at hd; cases hd
    | some k =>
      rw [z] at hd; cases hd
      have hi : i < n := by simpa using (List.getElem?_eq_some_iff.mp z).1
      rw [List.getElem?_range hi] at z
      cases z
      refine ⟨hi, fun y H' hy => ?_⟩
      obtain ⟨rfl, rfl⟩ := hy
      exact ⟨S, .refl s1, .int _⟩
  · show n ≤ _
    simp
def isSetD : Expr → Bool
  | .Set _ _ _ => true
  | _ => false
theorem fold_ok {e : Expr} (h : isSetD e = false) : ∀ (env : PySem.Env) (x : Value), foldedSetIterable e env x = pure x := by
  intro env x
  cases e <;> first | rfl | cases h
/-- a value that lasts is walked -/
theorem seq_sh {c : CE} {S H : Hp} {σ : L2.St} {E E1 : Env} {r : Rs} {d : D} {ds : List D} {R : It → Hp → Prop} (hd : seqD d = some ds) (I : EnvOk X.K S H σ E) (e1 : evE C c E = some (r, E1))
    (hv : ∀ v H1 S1, Post X.K S H σ E S1 H1 σ E1 → LOk X.K S1 σ v r.fz → Rep X.K S1 d v)
    (q : ∀ J H1 S1, Post X.K S H σ E S1 H1 σ E1 → (∃ G, WalkOk X.K J S1 G ds ∧ ∀ S H, G S H) → R J H1) :
    (iList X.K (tE X.K C c) σ H R ∨ iTup X.K (tE X.K C c) σ H R) ∨ iStr (tE X.K C c) σ H R := by
  cases d <;> simp only [seqD] at hd <;> try (cases hd; done)
  · split at hd
    · cases hd
      right
      refine op_kept I e1 fun v H1 S1 p1 l1 => ?_
      have rv := hv v H1 S1 p1 l1
      cases rv
      exact ⟨_, rfl, q _ H1 S1 p1 ⟨_, walk_str, fun _ _ => trivial⟩⟩
    · cases hd
  · cases hd
    left; right
    refine op_kept I e1 fun v H1 S1 p1 l1 => ?_
    have rv := hv v H1 S1 p1 l1
    cases rv with
    | tup ht rl => exact ⟨_, rfl, ⟨_, sqT_mono p1.sub ht.sq⟩, q _ H1 S1 p1 ⟨_, walk_tup (H0 := H1) ht.sq rl, fun _ _ => trivial⟩⟩
  · cases hd
    left; left
    refine op_kept I e1 fun v H1 S1 p1 l1 => ?_
    have rv := hv v H1 S1 p1 l1
    cases rv with
    | lst ht rl => exact ⟨_, rfl, ⟨_, .of (p1.sub _ _ ht)⟩, q _ H1 S1 p1 ⟨fun _ _ => True, walk_list rl (fun S' H' s0 s1 _ => ⟨_, s1 _ _ (s0 _ _ ht), rl.mono s0⟩), fun _ _ => trivial⟩⟩
theorem so_seq {e : Expr} {c : CE} (h : PE X e (tE X.K C c)) : PI X tg e (tI X.K C (.seq c)) := by
  refine PI.imp (PI.or (PI.or (pi_list h) (pi_tup h)) (pi_str h)) fun σ H R ⟨S, E, ds, l, E', I, e, q⟩ => ?_
  unfold evI at e
  split at e
  · rename_i r E1 e1
    split at e
    · rename_i d l' E2 e2
      simp only [Option.map_eq_some_iff] at e
      obtain ⟨ds', hd, e⟩ := e
      cases e
      have fin : l = none → E' = E1 → (∀ v H1 S1, Post X.K S H σ E S1 H1 σ E1 → LOk X.K S1 σ v r.fz → Rep X.K S1 d v) → (iList X.K (tE X.K C c) σ H R ∨ iTup X.K (tE X.K C c) σ H R) ∨ iStr (tE X.K C c) σ H R := fun hl hE hv => by
        subst hl hE
        exact seq_sh hd I e1 hv fun J H1 S1 p1 ⟨G, wk, g⟩ => q J H1 S1 p1 ⟨G, wk, fun S H _ _ _ _ _ => g S H⟩ (fun _ _ z => nomatch z) (fun _ z => nomatch z)
      cases r with
      | sh d0 => cases e2; exact fin rfl rfl fun v H1 S1 p1 l1 => by cases l1 with | sh rv => exact rv
      | ow d0 => cases e2; exact fin rfl rfl fun v H1 S1 p1 l1 => by cases l1 with | sh rv => exact rv
      | pk i =>
        cases g : E1.get i with
        | un => simp only [lock, g] at e2; cases e2
        | sh d0 =>
          simp only [lock, g] at e2; cases e2
          refine fin rfl rfl fun v H1 S1 p1 l1 => ?_
          cases l1 with
          | pk es =>
            obtain ⟨v', e', rv⟩ := p1.ok.sh i d g
            rw [es] at e'; cases e'
            exact rv
        | ow d0 =>
          simp only [lock, g] at e2; cases e2
          left; left
          refine op_kept I e1 fun v H1 S1 p1 l1 => ?_
          cases l1 with
          | pk es =>
            obtain ⟨a, e', sa, o⟩ := p1.ok.ow i d (.inl g)
            rw [es] at e'; cases e'
            have p2 := p1.trans (put_lk p1.ok g)
            have hi := get_lt g (by simp)
            generalize z : H1 a = w at o
            cases o with
            | dK _ => cases hd
            | dT _ => cases hd
            | lst rl =>
              cases hd
              refine ⟨a, rfl, ⟨_, .of z⟩, q _ H1 S1 p2 ⟨fun S H => OwnAt X.K S (H a) (.lst ds), walk_list rl (fun S' H' s0 s1 g => ?_), fun S2 H2 σ2 E2 I2 s2 lk => ?_⟩ (fun j b hj => by cases hj; exact ⟨_, get_put_same hi⟩) (fun j hj d' gj => ?_)⟩
              · generalize y : H' a = w at g
                cases g with
                | lst r => exact ⟨_, rfl, r⟩
              · obtain ⟨l1, l2⟩ := lk i true rfl _ (get_put_same hi)
                obtain ⟨b, e3, _, o3⟩ := I2.ow i _ (.inr l1)
                rw [l2, es] at e3; cases e3
                exact o3
              · cases hj
                have := (p1.lkd i d' gj).1
                rw [g] at this; cases this
        | lk d0 =>
          simp only [lock, g] at e2; cases e2
          left; left
          refine op_kept I e1 fun v H1 S1 p1 l1 => ?_
          cases l1 with
          | pk es =>
            obtain ⟨a, e', sa, o⟩ := p1.ok.ow i d (.inr g)
            rw [es] at e'; cases e'
            generalize z : H1 a = w at o
            cases o with
            | dK _ => cases hd
            | dT _ => cases hd
            | lst rl =>
              cases hd
              refine ⟨a, rfl, ⟨_, .of z⟩, q _ H1 S1 p1 ⟨fun S H => OwnAt X.K S (H a) (.lst ds), walk_list rl (fun S' H' s0 s1 g => ?_), fun S2 H2 σ2 E2 I2 s2 lk => ?_⟩ (fun j b hj => by cases hj; exact ⟨_, g⟩) (fun j hj => by cases hj)⟩
              · generalize y : H' a = w at g
                cases g with
                | lst r => exact ⟨_, rfl, r⟩
              · obtain ⟨l1, l2⟩ := lk i false rfl _ g
                obtain ⟨b, e3, _, o3⟩ := I2.ow i _ (.inr l1)
                rw [l2, es] at e3; cases e3
                exact o3
    · cases e
  · cases e
theorem rng_ok {a b : Int} {ds : List D} (h : rngD a b 1 = some ds) : -(2 ^ 62) ≤ a ∧ a < 2 ^ 62 ∧ -(2 ^ 62) ≤ b ∧ b < 2 ^ 62 ∧ ds = (List.range (b - a).toNat).map fun (k : Nat) => .int (a + k) := by
  unfold rngD at h
  split at h
  · rename_i c
    rw [if_pos rfl] at h
    cases h
    exact ⟨c.1, c.2.1, c.2.2.1, c.2.2.2, rfl⟩
  · cases h
theorem so_rng1 (O : Ok X N sc C F n) {a : Expr} {c : CE} {p pos : Pos} (hg : sc.lookup ("range" : Str) = some NameKind.globalImplicit) (hs : isStar a = false) (h : PE X a (tE X.K C c)) : PI X tg (.Call (.Name "range" p) [a] [] pos) (tI X.K C (.rng1 c)) := by
  refine PI.imp (pi_range1 (O.gl hg) (O.blt "range" (by decide)) (so_cons hs h so_nil) (star_cons hs)) fun σ H R ⟨S, E, ds, l, E', I, e, q⟩ => ?_
  unfold evI at e
  split at e
  · rename_i r E1 e1
    split at e
    · rename_i m va
      simp only [Option.map_eq_some_iff] at e
      obtain ⟨ds', hr, e⟩ := e
      cases e
      obtain ⟨_, _, b3, b4, rfl⟩ := rng_ok hr
      have e2 : evEs C (.cons c .nil) E = some ([r.fz], E') := by
        simp only [evEs, e1]
      refine ⟨S, E, _, E', I, e2, fun vs H1 S1 p1 l1 => ?_⟩
      cases l1 with
      | cons lv lr =>
        cases lr
        have := (lv.vw p1.ok (by rw [vw_fz]; exact va)).int
        subst this
        refine ⟨m, rfl, b3, b4, q _ H1 S1 p1 ⟨fun _ _ => True, ?_, fun _ _ _ _ _ _ _ => trivial⟩ (fun _ _ z => nomatch z) (fun _ z => nomatch z)⟩
        have w := walk_rng (K := X.K) (S0 := S1) 0 m.toNat
        rw [show (m - 0).toNat = m.toNat by simp]
        exact w
    · cases e
  · cases e
theorem so_rng2 (O : Ok X N sc C F n) {a b : Expr} {c d : CE} {p pos : Pos} (hg : sc.lookup ("range" : Str) = some NameKind.globalImplicit) (hs : isStar a = false) (ht : isStar b = false) (h : PE X a (tE X.K C c)) (h' : PE X b (tE X.K C d)) : PI X tg (.Call (.Name "range" p) [a, b] [] pos) (tI X.K C (.rng2 c d)) := by
  refine PI.imp (pi_range2 (O.gl hg) (O.blt "range" (by decide)) (so_cons hs h (so_cons ht h' so_nil)) (by rw [star_cons hs, star_cons ht]; rfl) (star_cons ht)) fun σ H R ⟨S, E, ds, l, E', I, e, q⟩ => ?_
  unfold evI at e
  split at e
  · rename_i r E1 e1
    split at e
    · rename_i r2 E2 e2
      split at e
      · rename_i m k va vb
        simp only [Option.map_eq_some_iff] at e
        obtain ⟨ds', hr, e⟩ := e
        cases e
        obtain ⟨b1, b2, b3, b4, rfl⟩ := rng_ok hr
        have e3 : evEs C (.cons c (.cons d .nil)) E = some ([r.fz, r2.fz], E') := by
          simp only [evEs, e1, e2]
        refine ⟨S, E, _, E', I, e3, fun vs H1 S1 p1 l1 => ?_⟩
        cases l1 with
        | cons lv lr =>
          cases lr with
          | cons lu lr =>
            cases lr
            have := (lv.vw p1.ok (by rw [vw_fz]; exact va)).int
            subst this
            have := (lu.vw p1.ok (by rw [vw_fz]; exact vb)).int
            subst this
            exact ⟨m, k, rfl, ⟨b1, b2, b3, b4⟩, q _ H1 S1 p1 ⟨fun _ _ => True, walk_rng m (k - m).toNat, fun _ _ _ _ _ _ _ => trivial⟩ (fun _ _ z => nomatch z) (fun _ z => nomatch z)⟩
      · cases e
    · cases e
  · cases e
end
end Fi
end

section
/-! FiI: targets, comprehensions. Own work. -/
namespace Fi
open PySem PySem.Spec L2
variable [J : HW]

/-! ### targets -/
def gT (K : PySem.W.Frag) (t : Tg) : TG := fun v σ H Q => ∃ S E d E', EnvOk K S H σ E ∧ Rep K S d v ∧ bindT t d E = some E' ∧
  ∀ σ', Post K S H σ E S H σ' E' → (∀ j, j ∉ t.slots → σ'[j]? = σ[j]?) → σ'.length = σ.length → Q σ' H
theorem PG.imp {X : Cx} {e : Expr} {t t' : TG} (h : PG X e t) (i : ∀ v σ H Q, t' v σ H Q → t v σ H Q) : PG X e t' := ⟨fun pins s σ H v u Q I r q => h.run pins s σ H v u Q I r (i v σ H Q q)⟩
/-- may the name be stored to -/
def sto (sc W : Nms) (x : Str) : Bool := match sc.lookup x with
  | some .local => true
  | some .cell => W.lookup x == some .cell
  | _ => false
structure OkW (X : Cx) (W : Nms) : Prop where
  fn : ∀ x, W.lookup x = some .cell → X.fn x = true
section
variable {X : Cx} {N : List Str} {sc W : Nms} {C : Ctx} {F : List (Str × Nat)} {n : Nat}
theorem Ok.loc (O : Ok X N sc C F n) (OW : OkW X W) {x : Str} (h : sto sc W x = true) : L2.Loc X.env.scope x ∧ (X.fn x = true ∨ X.env.scope.names.lookup x = some .local) := by
  unfold sto at h
  unfold L2.Loc
  rw [O.names]
  split at h
  · rename_i z; exact ⟨.inl z, .inr z⟩
  · rename_i z; exact ⟨.inr z, .inl (OW.fn x (by simpa using h))⟩
  · cases h
theorem pgn (O : Ok X N sc C F n) (OW : OkW X W) {x : Str} {i : Nat} {pos : Pos} (hx : slot N x = some i) (hs : sto sc W x = true) : PG X (.Name x pos) (gName i) := by
  obtain ⟨h1, h2⟩ := O.loc OW hs
  exact pg_name (by rw [O.eN]; exact O.nd) (by rw [O.eN]; exact slot_ok hx) h1 h2
theorem so_nm (O : Ok X N sc C F n) (OW : OkW X W) {x : Str} {i : Nat} {pos : Pos} (hx : slot N x = some i) (hs : sto sc W x = true) : PG X (.Name x pos) (gT X.K (.nm i)) := by
  refine PG.imp (pgn O OW hx hs) fun v σ H Q ⟨S, E, d, E', I, r, e, q⟩ => ?_
  simp only [bindT] at e
  split at e
  · rename_i hf
    cases e
    exact q _ (put_sh I hf r) (fun j hj => List.getElem?_set_ne (by simp [Tg.slots] at hj; exact Ne.symm hj)) (List.length_set ..)
  · cases e
def gNs : List Nat → TGs
  | [] => gNil
  | i :: is => gCons (gName i) (gNs is)
theorem puts_ok {K : PySem.W.Frag} {S H : Hp} {is : List Nat} : ∀ {σ : L2.St} {E E' : Env} {ds : List D} {vs : List V} {Q : L2.St → Hp → Prop}, EnvOk K S H σ E → RepL K S ds vs → puts E is ds = some E' →
    (∀ σ', Post K S H σ E S H σ' E' → (∀ j, j ∉ is → σ'[j]? = σ[j]?) → σ'.length = σ.length → Q σ' H) → gNs is vs σ H Q := by
  induction is with
  | nil =>
    intro σ E E' ds vs Q I r e q
    cases ds with
    | nil => cases r; cases e; exact ⟨rfl, q σ (.refl I) (fun _ _ => rfl) rfl⟩
    | cons d ds => cases e
  | cons i is ih =>
    intro σ E E' ds vs Q I r e q
    cases ds with
    | nil => cases e
    | cons d ds =>
      cases r with
      | @cons _ v _ vs rv rl =>
        simp only [puts] at e
        split at e
        · rename_i hf
          have p1 := put_sh I hf rv
          refine ⟨v, vs, rfl, ?_⟩
          refine ih p1.ok rl e fun σ' p2 same len => ?_
          refine q σ' (p1.trans p2) (fun j hj => ?_) (by rw [len, List.length_set])
          simp only [List.mem_cons, not_or] at hj
          rw [same j hj.2, List.getElem?_set_ne (Ne.symm hj.1)]
        · cases e
/-- names, each in its slot -/
def nmSlots (N : List Str) (sc W : Nms) : List Expr → Option (List Nat)
  | [] => some []
  | .Name x _ :: r => match slot N x, nmSlots N sc W r with
    | some i, some is => if sto sc W x then some (i :: is) else none
    | _, _ => none
  | _ => none
theorem so_nms (O : Ok X N sc C F n) (OW : OkW X W) {es : List Expr} : ∀ {is : List Nat}, nmSlots N sc W es = some is → PGs X es (gNs is) ∧ (assignEach es X.env).length = is.length ∧ (assignEach es X.env).findIdx? (·.1) = none := by
  induction es with
  | nil => intro is h; cases h; exact ⟨pgs_nil, rfl, rfl⟩
  | cons e es ih =>
    intro is h
    cases e with
    | Name x pos =>
      simp only [nmSlots] at h
      split at h
      · rename_i i is' hi his
        split at h
        · rename_i hs
          cases h
          obtain ⟨h1, h2, h3⟩ := ih his
          refine ⟨pgs_cons (pgn O OW hi hs) h1, by show _ + 1 = _ + 1; rw [h2], ?_⟩
          show List.findIdx? _ ((false, _) :: assignEach es X.env) = none
          rw [List.findIdx?_cons, h3]; rfl
        · cases h
      · cases h
    | _ => simp [nmSlots] at h
theorem so_tp (O : Ok X N sc C F n) (OW : OkW X W) {es : List Expr} {k : Nat} {pos : Pos} {is : List Nat} (h : nmSlots N sc W es = some is) : PG X (.Tuple es k pos) (gT X.K (.tp is)) := by
  obtain ⟨h1, h2, h3⟩ := so_nms O OW h
  refine PG.imp (pg_tup O.calm h1 h2 h3) fun v σ H Q ⟨S, E, d, E', I, r, e, q⟩ => ?_
  cases d <;> simp only [bindT] at e <;> try (cases e; done)
  rename_i ds
  cases r with
  | @tup a vs _ ht rl =>
    refine ⟨a, vs, rfl, sqT_mono I.sub ht.sq, ?_, puts_ok I rl e q⟩
    have hl : ∀ {is : List Nat} {ds : List D} {E E' : Env}, puts E is ds = some E' → ds.length = is.length := by
      intro is
      induction is with
      | nil => intro ds E E' e; cases ds <;> first | rfl | cases e
      | cons i is ih =>
        intro ds E E' e
        cases ds with
        | nil => cases e
        | cons d ds =>
          simp only [puts] at e
          split at e
          · simp [ih e]
          · cases e
    rw [← rl.length]; exact hl e

/-! ### tests of a comprehension -/
def tTs (K : PySem.W.Frag) (C : Ctx) (c : CEs) : TT := fun σ H Q => ∃ S E b E', EnvOk K S H σ E ∧ evT C c E = some (b, E') ∧ ∀ H' S', Post K S H σ E S' H' σ E' → Q b H'
theorem PTs.imp {X : Cx} {e : List Expr} {t t' : TT} (h : PTs X e t) (i : ∀ σ H Q, t' σ H Q → t σ H Q) : PTs X e t' := ⟨fun pins s σ H Q I q => h.run pins s σ H Q I (i σ H Q q)⟩
theorem so_ts0 : PTs X [] (tTs X.K C .nil) := by
  refine PTs.imp pts_nil fun σ H Q ⟨S, E, b, E', I, e, q⟩ => ?_
  unfold evT at e
  cases e
  exact q H S (.refl I)
theorem so_ts1 {c : Expr} {cc : CE} (h : PT X c (tT X.K C cc)) : PTs X [c] (tTs X.K C (.cons cc .nil)) := by
  refine PTs.imp (pts_one h) fun σ H Q ⟨S, E, b, E', I, e, q⟩ => ?_
  unfold evT at e
  split at e
  · rename_i x E1 e1
    split at e
    · rename_i t
      unfold evT at e
      cases e
      exact ⟨S, E, x, E', true, I, e1, t, q⟩
    · rename_i t
      cases e
      exact ⟨S, E, x, E', false, I, e1, t, q⟩
    · cases e
  · cases e
end

/-! ### wiped slots -/
section
variable {K : PySem.W.Frag} {S S' S1 H H' H1 : Hp} {σ σ' σ1 : L2.St} {E E' E1 : Env} {own : List Nat}
theorem wipeE_len : (wipeE E own).sl.length = E.sl.length ∧ (wipeE E own).ro = E.ro := by
  induction own with
  | nil => exact ⟨rfl, rfl⟩
  | cons i own ih => exact ⟨put_len.trans ih.1, ih.2⟩
theorem wipeE_in {i : Nat} (h : i ∈ own) : (wipeE E own).get i = .un := by
  induction own with
  | nil => simp at h
  | cons j own ih =>
    show ((wipeE E own).put j .un).get i = _
    rw [get_put]
    split
    · rfl
    · rename_i z
      by_cases hi : i = j
      · subst hi
        have : ¬ i < (wipeE E own).sl.length := fun q => z ⟨rfl, q⟩
        simp [Env.get, List.getD_eq_getElem?_getD, List.getElem?_eq_none (Nat.le_of_not_lt this)]
      · exact ih ((List.mem_cons.mp h).resolve_left hi)
theorem wipeE_out {i : Nat} (h : i ∉ own) : (wipeE E own).get i = E.get i := by
  induction own with
  | nil => rfl
  | cons j own ih =>
    simp only [List.mem_cons, not_or] at h
    show ((wipeE E own).put j .un).get i = _
    rw [get_put_ne h.1]
    exact ih h.2
theorem wipe_in {i : Nat} {v : V} (h : i ∈ own) : (wipe σ own)[i]? ≠ some (some v) := fun e => (wipe_some e).2 h
theorem wiped (I : EnvOk K S H σ E) (ho : ownOk E own = true) : EnvOk K S H (wipe σ own) (wipeE E own) := by
  have nro : ∀ i ∈ own, i ∉ E.ro := fun i hi => by
    unfold ownOk at ho
    rw [List.all_eq_true] at ho
    simpa using ho i hi
  have out : ∀ i, (wipeE E own).get i ≠ .un → i ∉ own := fun i h hi => h (wipeE_in hi)
  refine ⟨I.sub, by rw [wipe_length, wipeE_len.1]; exact I.len, fun i d g => ?_, fun i d g => ?_, fun i j a hi hj ei ej => ?_, fun i hi => ?_⟩
  · have hi := out i (by rw [g]; simp)
    rw [wipeE_out hi] at g
    rw [wipe_out hi]
    exact I.sh i d g
  · have hi := out i (by rcases g with g | g <;> rw [g] <;> simp)
    rw [wipeE_out hi] at g
    rw [wipe_out hi]
    exact I.ow i d g
  · have h1 := out i (by obtain ⟨d, g | g⟩ := hi <;> rw [g] <;> simp)
    have h2 := out j (by obtain ⟨d, g | g⟩ := hj <;> rw [g] <;> simp)
    unfold Env.isOw at hi hj
    rw [wipeE_out h1] at hi
    rw [wipeE_out h2] at hj
    rw [wipe_out h1] at ei
    rw [wipe_out h2] at ej
    exact I.inj i j a hi hj ei ej
  · rw [wipeE_len.2] at hi
    have ho := fun h => nro i h hi
    obtain ⟨a, e, h⟩ := I.ro i hi
    refine ⟨a, by rw [wipe_out ho]; exact e, h.imp (fun ⟨d, g⟩ => ⟨d, by rw [wipeE_out ho]; exact g⟩) id⟩
/-- a step that ends with the slots wiped, from an environment in which they were -/
theorem Post.wipe (p : Post K S H σ E S1 H1 σ1 E1) (hu : ∀ i ∈ own, E.get i = .un) (ho : ownOk E own = true) : Post K S H σ E S1 H1 (wipe σ1 own) (wipeE E1 own) := by
  have nro : ∀ i ∈ own, i ∉ E.ro := fun i hi => by
    unfold ownOk at ho
    rw [List.all_eq_true] at ho
    simpa using ho i hi
  have ho' : ownOk E1 own = true := by unfold ownOk; rw [p.roE]; exact ho
  refine ⟨wiped p.ok ho', p.grow, p.frame, p.keepS, p.dom, fun a ⟨i, ⟨d, g⟩, e⟩ => ?_, by rw [wipeE_len.2]; exact p.roE, fun i hi => ?_, fun i d g => ?_⟩
  · have hi : i ∉ own := fun h => by rw [wipeE_in h] at g; rcases g with g | g <;> cases g
    rw [wipeE_out hi] at g
    rw [wipe_out hi] at e
    exact p.own a ⟨i, ⟨d, g⟩, e⟩
  · rw [wipe_out fun h => nro i h hi]; exact p.rof i hi
  · have hi : i ∉ own := fun h => by rw [hu i h] at g; cases g
    obtain ⟨g1, g2⟩ := p.lkd i d g
    rw [wipeE_out hi, wipe_out hi]; exact ⟨g1, g2⟩
/-- a new object that nobody holds is changed -/
theorem Post.upd_new {o : HO} {D : Addr} (p : Post K S H σ E S1 H1 σ1 E1) (h0 : H D = none) (s1 : S1 D = none) (h1 : H1 D ≠ none) (w : ¬ Own σ1 E1 D) : Post K S H σ E S1 (upd H1 D o) σ1 E1 := by
  have nS : ∀ b x, S1 b = some x → b ≠ D := fun b x e => by rintro rfl; rw [s1] at e; cases e
  refine ⟨⟨fun b x e => by rw [upd_ne (nS b x e)]; exact p.ok.sub b x e, p.ok.len, p.ok.sh, fun i d g => ?_, p.ok.inj, p.ok.ro⟩, p.grow, fun b x n e => ?_, p.keepS, fun b e => ?_, p.own, p.roE, p.rof, p.lkd⟩
  · obtain ⟨a, e, s, o'⟩ := p.ok.ow i d g
    have ha : a ≠ D := by rintro rfl; exact w ⟨i, ⟨d, g⟩, e⟩
    exact ⟨a, e, s, by rw [upd_ne ha]; exact o'⟩
  · have hb : b ≠ D := by rintro rfl; rw [h0] at e; cases e
    rw [upd_ne hb]; exact p.frame b x n e
  · by_cases hb : b = D
    · subst hb; exact h0
    · rw [upd_ne hb] at e; exact p.dom b e
theorem back_len {E0 : Env} : (back E0 E own).sl.length = E.sl.length ∧ (back E0 E own).ro = E.ro := by
  induction own with
  | nil => exact ⟨rfl, rfl⟩
  | cons i own ih => exact ⟨put_len.trans ih.1, ih.2⟩
theorem back_in {E0 : Env} {i : Nat} (h : i ∈ own) (hl : E0.sl.length = E.sl.length) : (back E0 E own).get i = E0.get i := by
  induction own with
  | nil => simp at h
  | cons j own ih =>
    show ((back E0 E own).put j (E0.get j)).get i = _
    rw [get_put]
    split
    · rename_i z; rw [z.1]
    · rename_i z
      by_cases hi : i = j
      · subst hi
        have h1 : ¬ i < (back E0 E own).sl.length := fun q => z ⟨rfl, q⟩
        rw [back_len.1, ← hl] at h1
        have e1 : E0.get i = .un := by simp [Env.get, List.getD_eq_getElem?_getD, List.getElem?_eq_none (Nat.le_of_not_lt h1)]
        rw [e1]
        simp [Env.get, List.getD_eq_getElem?_getD]
        rw [List.getElem?_eq_none]
        · rfl
        · rw [back_len.1, ← hl]; omega
      · exact ih ((List.mem_cons.mp h).resolve_left hi)
theorem back_out {E0 : Env} {i : Nat} (h : i ∉ own) : (back E0 E own).get i = E.get i := by
  induction own with
  | nil => rfl
  | cons j own ih =>
    simp only [List.mem_cons, not_or] at h
    show ((back E0 E own).put j (E0.get j)).get i = _
    rw [get_put_ne h.1]
    exact ih h.2
/-- the comprehension's own slots as they were ahead -/
theorem Post.back (I : EnvOk K S H σ E) (ho : ownOk E own = true) (p : Post K S H (L2.wipe σ own) (wipeE E own) S1 H1 (L2.wipe σ own) E1) : Post K S H σ E S1 H1 σ (back E E1 own) := by
  have nro : ∀ i ∈ own, i ∉ E.ro := fun i hi => by
    unfold ownOk at ho
    rw [List.all_eq_true] at ho
    simpa using ho i hi
  have hl : E.sl.length = E1.sl.length := by
    have h1 := I.len
    have h2 := p.ok.len
    rw [wipe_length] at h2
    omega
  -- a slot's container that was put aside
  have aside : ∀ i a, i ∈ own → E.isOw i → σ[i]? = some (some (.ref a)) → ¬ Own (L2.wipe σ own) (wipeE E own) a := fun i a hi hw e ⟨j, ⟨d, g⟩, e'⟩ => by
    have hj : j ∉ own := fun h => by rw [wipeE_in h] at g; rcases g with g | g <;> cases g
    rw [wipeE_out hj] at g
    rw [wipe_out hj] at e'
    exact hj (by rw [← I.inj i j a hw ⟨d, g⟩ e e']; exact hi)
  have ownE : ∀ a, Own (L2.wipe σ own) (wipeE E own) a → Own σ E a := fun a ⟨j, ⟨d, g⟩, e'⟩ => by
    have hj : j ∉ own := fun h => by rw [wipeE_in h] at g; rcases g with g | g <;> cases g
    rw [wipeE_out hj] at g
    rw [wipe_out hj] at e'
    exact ⟨j, ⟨d, g⟩, e'⟩
  have cross : ∀ i j a, i ∈ own → j ∉ own → E.isOw i → E1.isOw j → σ[i]? = some (some (.ref a)) → σ[j]? = some (some (.ref a)) → False := fun i j a hi hj wi wj ei ej => by
    obtain ⟨d, g⟩ := wi
    obtain ⟨b, e, s, o⟩ := I.ow i d g
    rw [ei] at e; cases e
    obtain ⟨x, ex⟩ := o.some
    rcases p.own a ⟨j, wj, by rw [wipe_out hj]; exact ej⟩ with z | z
    · exact aside i a hi ⟨d, g⟩ ei z
    · rw [ex] at z; cases z
  refine ⟨⟨p.ok.sub, by rw [back_len.1, ← hl]; exact I.len, fun i d g => ?_, fun i d g => ?_, fun i j a hi hj ei ej => ?_, fun i hi => ?_⟩, p.grow, fun a o n e => p.frame a o (fun h => n (ownE a h)) e, fun a o n e s => p.keepS a o (fun h => n (ownE a h)) e s, p.dom, fun a ⟨i, ⟨d, g⟩, e⟩ => ?_, by rw [back_len.2, p.roE, wipeE_len.2], fun _ _ => rfl, fun i d g => ?_⟩
  · by_cases hi : i ∈ own
    · rw [back_in hi hl] at g
      obtain ⟨v, e, r⟩ := I.sh i d g
      exact ⟨v, e, r.mono p.grow⟩
    · rw [back_out hi] at g
      obtain ⟨v, e, r⟩ := p.ok.sh i d g
      rw [wipe_out hi] at e
      exact ⟨v, e, r⟩
  · by_cases hi : i ∈ own
    · rw [back_in hi hl] at g
      obtain ⟨a, e, s, o⟩ := I.ow i d g
      obtain ⟨x, ex⟩ := o.some
      have na := aside i a hi ⟨d, g⟩ e
      refine ⟨a, e, p.keepS a x na ex s, ?_⟩
      rw [p.frame a x na ex]
      rw [ex] at o
      exact o.mono p.grow
    · rw [back_out hi] at g
      obtain ⟨a, e, s, o⟩ := p.ok.ow i d g
      rw [wipe_out hi] at e
      exact ⟨a, e, s, o⟩
  · unfold Env.isOw at hi hj
    by_cases h1 : i ∈ own
    · rw [back_in h1 hl] at hi
      by_cases h2 : j ∈ own
      · rw [back_in h2 hl] at hj
        exact I.inj i j a hi hj ei ej
      · rw [back_out h2] at hj
        exact (cross i j a h1 h2 hi hj ei ej).elim
    · rw [back_out h1] at hi
      by_cases h2 : j ∈ own
      · rw [back_in h2 hl] at hj
        exact (cross j i a h2 h1 hj hi ej ei).elim
      · rw [back_out h2] at hj
        exact p.ok.inj i j a hi hj (by rw [wipe_out h1]; exact ei) (by rw [wipe_out h2]; exact ej)
  · rw [back_len.2, p.roE, wipeE_len.2] at hi
    have hn := fun h => nro i h hi
    obtain ⟨a, e, h⟩ := p.ok.ro i (by rw [p.roE, wipeE_len.2]; exact hi)
    rw [wipe_out hn] at e
    exact ⟨a, e, h.imp (fun ⟨d, g⟩ => ⟨d, by rw [back_out hn]; exact g⟩) id⟩
  · by_cases hi : i ∈ own
    · rw [back_in hi hl] at g
      exact .inl ⟨i, ⟨d, g⟩, e⟩
    · rw [back_out hi] at g
      exact (p.own a ⟨i, ⟨d, g⟩, by rw [wipe_out hi]; exact e⟩).imp (ownE a) id
  · by_cases hi : i ∈ own
    · rw [back_in hi hl]; exact ⟨g, rfl⟩
    · rw [back_out hi]
      exact ⟨(p.lkd i d (by rw [wipeE_out hi]; exact g)).1, rfl⟩
end
end Fi
end

section
/-! FiJ: comprehensions. Own work. -/
namespace Fi
open PySem PySem.Spec L2
variable [J : HW]
section
variable {K : PySem.W.Frag} {C : Ctx}
theorem lock_out {own : List Nat} {l : Option (Nat × Bool)} (h : lkFree own l = true) : ∀ i b, l = some (i, b) → i ∉ own := fun i b e => by
  subst e
  simpa [lkFree] using h
theorem wipe_ext {σ σ' : L2.St} {own : List Nat} (hl : σ'.length = σ.length) (h : ∀ j, j ∉ own → σ'[j]? = σ[j]?) : wipe σ' own = wipe σ own := by
  have wn : ∀ (τ : L2.St) (vs : List Nat) (j : Nat), j ∈ vs → j < τ.length → (wipe τ vs)[j]? = some none := fun τ vs j => by
    induction vs with
    | nil => intro z; simp at z
    | cons v vs ih =>
      intro z hj
      show ((wipe τ vs).set v none)[j]? = _
      by_cases e : v = j
      · subst e; rw [List.getElem?_set_self (by rw [wipe_length]; exact hj)]
      · rw [List.getElem?_set_ne e]
        exact ih ((List.mem_cons.mp z).resolve_left fun q => e q.symm) hj
  apply List.ext_getElem?
  intro j
  by_cases hj : j ∈ own
  · by_cases hlt : j < σ.length
    · rw [wn _ _ _ hj (by omega), wn _ _ _ hj hlt]
    · rw [List.getElem?_eq_none (by rw [wipe_length]; omega), List.getElem?_eq_none (by rw [wipe_length]; omega)]
  · rw [wipe_out hj, wipe_out hj]; exact h j hj
/-- the state of a comprehension's walk: what stands behind i items -/
structure Mid (K : PySem.W.Frag) (S1 H1 : Hp) (σ0 : L2.St) (E0 : Env) (D : Addr) (acc : List Fi.D) (S H : Hp) (σ : L2.St) (E : Env) : Prop where
  post : Post K S1 H1 σ0 E0 S H σ E
  at_ : ∃ vs, H D = some (.lst vs) ∧ RepL K S acc vs
  out : S D = none
  own : ¬ Own σ E D
/-- a turn of the walk -/
theorem turn_read {c : CE} {cs : CEs} {t : Tg} {own : List Nat} {S1 H1 : Hp} {σ σ0 : L2.St} {Ew E E' : Env} {D : Addr} {acc : List Fi.D} {S H : Hp} {d : Fi.D} {od : Option Fi.D} {x : V} {Nx : Hp → Prop}
    (hn : H1 D = none) (hs1 : S1 D = none) (hu : ∀ i ∈ own, Ew.get i = .un) (ho : ownOk Ew own = true) (ht : ∀ i ∈ t.slots, i ∈ own) (m : Mid K S1 H1 σ0 Ew D acc S H (wipe σ own) E) (r : Rep K S d x) (f : turnF t (evT C cs) (evE C c) own d E = some (od, E'))
    (hz : ∀ y, od = some y → acc.length < bigLine)
    (next : ∀ S' H', Mid K S1 H1 σ0 Ew D (match od with | some y => acc ++ [y] | none => acc) S' H' (wipe σ own) E' → Same S S' → (∀ i d, i ∉ own → E.get i = .lk d → E'.get i = .lk d) → Nx H') :
    gT K t x (wipe σ own) H fun σ2 H2 => wipe σ2 own = wipe σ own ∧ tTs K C cs σ2 H2 fun b H3 => if b = true then tE K C c σ2 H3 fun y H4 => ∃ acc, H4 D = some (.lst acc) ∧ acc.length < sizeLine ∧ Nx (upd H4 D (.lst (acc ++ [y]))) else Nx H3 := by
  unfold turnF at f
  split at f
  · rename_i E2 e2
    split at f
    · rename_i E3 e3
      split at f
      · rename_i rr E4 e4
        split at f
        · rename_i d' E5 e5
          cases f
          refine ⟨S, E, d, E2, m.post.ok, r, e2, fun σ2 p2 same len => ?_⟩
          have wq : wipe σ2 own = wipe σ own := by
            have := wipe_ext (σ := wipe σ own) (own := own) len fun j hj => same j fun z => hj (ht j z)
            rw [this]
            exact wipe_ext (wipe_length _ _) fun j hj => wipe_out hj
          refine ⟨wq, S, E2, true, E3, p2.ok, e3, fun H3 S3 p3 => ?_⟩
          refine iteT ?_
          refine op_kept p3.ok e4 fun y H4 S4 p4 l4 => ?_
          obtain ⟨S5, p5, rep⟩ := l4.tk p4.ok (by rw [tk_fz]; exact e5)
          have p05 : Post K S1 H1 σ0 Ew S5 H4 σ2 E5 := ((m.post.trans (p2.trans p3)).trans p4).trans p5
          have pm : Post K S H (wipe σ own) E S5 H4 σ2 E5 := ((p2.trans p3).trans p4).trans p5
          obtain ⟨vs, hD, ra⟩ := m.at_
          have hD4 := pm.frame D _ m.own hD
          have sD4 := pm.keepS D _ m.own hD m.out
          have nD4 : ¬ Own σ2 E5 D := fun z => (pm.own D z).elim m.own fun z => by rw [hD] at z; cases z
          refine ⟨vs, hD4, ?_, next S5 _ ?_ pm.grow fun i d hi g => by rw [wipeE_out hi]; exact (pm.lkd i d g).1⟩
          · rw [← ra.length, ← big_eq]; exact hz _ rfl
          · have pw := p05.wipe hu ho
            rw [wq] at pw
            have nw : ¬ Own (wipe σ own) (wipeE E5 own) D := fun ⟨i, ⟨q, g⟩, e⟩ => by
              have hi : i ∉ own := fun h => by rw [wipeE_in h] at g; rcases g with g | g <;> cases g
              rw [wipeE_out hi] at g
              rw [wipe_out hi, ← wipe_out hi, ← wq, wipe_out hi] at e
              exact nD4 ⟨i, ⟨q, g⟩, e⟩
            refine ⟨pw.upd_new hn sD4 (by rw [hD4]; simp) nw, ⟨_, upd_same, (ra.mono pm.grow).append (.cons rep .nil)⟩, sD4, nw⟩
        · cases f
      · cases f
    · rename_i E3 e3
      cases f
      refine ⟨S, E, d, E2, m.post.ok, r, e2, fun σ2 p2 same len => ?_⟩
      have wq : wipe σ2 own = wipe σ own := by
        have := wipe_ext (σ := wipe σ own) (own := own) len fun j hj => same j fun z => hj (ht j z)
        rw [this]
        exact wipe_ext (wipe_length _ _) fun j hj => wipe_out hj
      refine ⟨wq, S, E2, false, E3, p2.ok, e3, fun H3 S3 p3 => ?_⟩
      refine iteF ?_
      have p05 : Post K S1 H1 σ0 Ew S3 H3 σ2 E3 := m.post.trans (p2.trans p3)
      have pm : Post K S H (wipe σ own) E S3 H3 σ2 E3 := p2.trans p3
      obtain ⟨vs, hD, ra⟩ := m.at_
      have hD4 := pm.frame D _ m.own hD
      have sD4 := pm.keepS D _ m.own hD m.out
      have nD4 : ¬ Own σ2 E3 D := fun z => (pm.own D z).elim m.own fun z => by rw [hD] at z; cases z
      have pw := p05.wipe hu ho
      rw [wq] at pw
      have nw : ¬ Own (wipe σ own) (wipeE E3 own) D := fun ⟨i, ⟨q, g⟩, e⟩ => by
        have hi : i ∉ own := fun h => by rw [wipeE_in h] at g; rcases g with g | g <;> cases g
        rw [wipeE_out hi] at g
        rw [wipe_out hi, ← wipe_out hi, ← wq, wipe_out hi] at e
        exact nD4 ⟨i, ⟨q, g⟩, e⟩
      exact next S3 H3 ⟨pw, ⟨vs, hD4, ra.mono pm.grow⟩, sD4, nw⟩ pm.grow fun i d hi g => by rw [wipeE_out hi]; exact (pm.lkd i d g).1
    · cases f
  · cases f
theorem drop_at {α : Type} {l : List α} {i : Nat} (h : i < l.length) : l.drop i = l[i] :: l.drop (i + 1) := List.drop_eq_getElem_cons h
/-- behind a comprehension's walk its new list is nobody's -/
theorem back_own {S1 H1 : Hp} {σ : L2.St} {E1 E6 : Env} {own : List Nat} {D : Addr} (I1 : EnvOk K S1 H1 σ E1) (nD : ¬ Own σ E1 D) (hl : E1.sl.length = E6.sl.length) (no : ¬ Own (wipe σ own) E6 D) : ¬ Own σ (back E1 E6 own) D := by
  intro w
  obtain ⟨k, w2, w3⟩ := w
  obtain ⟨q1, q2⟩ := w2
  by_cases hk : k ∈ own
  · rw [back_in hk hl] at q2
    exact nD ⟨k, ⟨q1, q2⟩, w3⟩
  · rw [back_out hk] at q2
    exact no ⟨k, ⟨q1, q2⟩, by rw [wipe_out hk]; exact w3⟩
theorem unlock_own {σ : L2.St} {E : Env} {l : Option (Nat × Bool)} {D : Addr} (no : ¬ Own σ E D) : ¬ Own σ (unlock E l) D := by
  rintro ⟨i, ⟨d, g⟩, e⟩
  refine no ⟨i, ?_, e⟩
  cases l with
  | none => exact ⟨d, g⟩
  | some ib =>
    obtain ⟨j, b⟩ := ib
    cases b with
    | false => exact ⟨d, g⟩
    | true =>
      unfold unlock at g
      simp only at g
      split at g
      · rename_i d2 g2
        by_cases hij : i = j
        · subst hij; exact ⟨d2, .inr g2⟩
        · rw [get_put_ne hij] at g; exact ⟨d, g⟩
      · exact ⟨d, g⟩
/-- the walk of a comprehension over what is known of it -/
theorem cmp_core {c : CE} {t : Tg} {cs : CEs} {own : List Nat} (ht : ∀ i ∈ t.slots, i ∈ own) {S1 H1 : Hp} {σ : L2.St} {E1 E6 : Env} {l : Option (Nat × Bool)} {ds out : List Fi.D} {J : It} {G : Hp → Hp → Prop} {Q : VK} (I1 : EnvOk K S1 H1 σ E1) (wk : WalkOk K J S1 G ds)
    (hG : ∀ S'' H'' σ'' E'', EnvOk K S'' H'' σ'' E'' → Same S1 S'' → LockIn E1 σ E'' σ'' l → G S'' H'') (lf : lkFree own l = true) (ho : ownOk E1 own = true) (e6 : cmpL (turnF t (evT C cs) (evE C c) own) ds [] (wipeE E1 own) = some (out, E6))
    (q : ∀ D H' S', H1 D = none → Post K S1 H1 σ E1 S' H' σ (back E1 E6 own) → S' D = none → OwnAt K S' (H' D) (.lst out) → ¬ Own σ (back E1 E6 own) D → Q (.ref D) H') :
    ∀ D, H1 D = none → ∃ W : Nat → Nat → Hp → Prop, (∃ m, W 0 m (upd H1 D (.lst []))) ∧ ∀ i m H, W i m H →
      (J.stop i H ∧ Q (.ref D) H) ∨ (J.go i H ∧ ∃ Nx : Hp → Prop, (∀ H', Nx H' → ∃ m', m' < m ∧ W (i + 1) m' H') ∧ ∀ x H', J.yld i H x H' → gT K t x (wipe σ own) H' fun σ2 H2 => wipe σ2 own = wipe σ own ∧ tTs K C cs σ2 H2 fun b H3 =>
        if b = true then tE K C c σ2 H3 fun y H4 => ∃ acc, H4 D = some (.lst acc) ∧ acc.length < sizeLine ∧ Nx (upd H4 D (.lst (acc ++ [y]))) else Nx H3) := by
  intro D hD
  have sD : S1 D = none := same_none I1.sub hD
  have nD : ¬ Own σ E1 D := fun z => by
    obtain ⟨o, ho', _⟩ := own_some I1 z
    rw [hD] at ho'; cases ho'
  have Iw := wiped I1 ho
  have nDw : ¬ Own (wipe σ own) (wipeE E1 own) D := fun z => by
    obtain ⟨o, ho', _⟩ := own_some Iw z
    rw [hD] at ho'; cases ho'
  have hu : ∀ i ∈ own, (wipeE E1 own).get i = .un := fun i hi => wipeE_in hi
  have how : ownOk (wipeE E1 own) own = true := by unfold ownOk; rw [wipeE_len.2]; exact ho
  have start : Mid K S1 H1 (wipe σ own) (wipeE E1 own) D [] S1 (upd H1 D (.lst [])) (wipe σ own) (wipeE E1 own) :=
    ⟨(ext_new I1.sub hD).post Iw, ⟨[], upd_same, .nil⟩, sD, nDw⟩
  refine ⟨fun i m H' => m = ds.length - i ∧ i ≤ ds.length ∧ ∃ S' acc E'', Mid K S1 H1 (wipe σ own) (wipeE E1 own) D acc S' H' (wipe σ own) E'' ∧ cmpL (turnF t (evT C cs) (evE C c) own) (ds.drop i) acc E'' = some (out, E6),
    ⟨ds.length, by simp, Nat.zero_le _, S1, [], _, start, e6⟩, ?_⟩
  rintro i m H' ⟨rfl, hi, S', acc, E'', mid, run⟩
  have guard : G S' H' := hG S' H' (wipe σ own) E'' mid.post.ok mid.post.grow fun j b hl d hd => by
    have hj := lock_out lf j b hl
    obtain ⟨g1, g2⟩ := mid.post.lkd j d (by rw [wipeE_out hj]; exact hd)
    exact ⟨g1, wipe_out hj⟩
  by_cases hlt : i < ds.length
  · right
    rw [drop_at hlt] at run
    obtain ⟨go, yl⟩ := wk.step S' H' i ds[i] mid.post.grow mid.post.ok.sub guard (List.getElem?_eq_getElem hlt)
    unfold cmpL at run
    cases f : turnF t (evT C cs) (evE C c) own ds[i] E'' with
    | none => rw [f] at run; cases run
    | some p =>
      obtain ⟨od, E3⟩ := p
      rw [f] at run
      refine ⟨go, fun H2 => ∃ S2 acc2, Mid K S1 H1 (wipe σ own) (wipeE E1 own) D acc2 S2 H2 (wipe σ own) E3 ∧ cmpL (turnF t (evT C cs) (evE C c) own) (ds.drop (i + 1)) acc2 E3 = some (out, E6), fun H2 ⟨S2, acc2, m2, r2⟩ => ⟨ds.length - (i + 1), by omega, rfl, hlt, S2, acc2, E3, m2, r2⟩, fun x H2 hy => ?_⟩
      obtain ⟨S2, ex, rx⟩ := yl x H2 hy
      have pe := ex.post mid.post.ok
      obtain ⟨vs, hDv, ra⟩ := mid.at_
      have mid2 : Mid K S1 H1 (wipe σ own) (wipeE E1 own) D acc S2 H2 (wipe σ own) E'' := ⟨mid.post.trans pe, ⟨vs, ex.ext _ _ hDv, ra.mono ex.grow⟩, ex.keepS _ _ hDv mid.out, mid.own⟩
      refine turn_read hD sD hu how ht mid2 rx f (fun y hy => ?_) fun S3 H3 m3 _ _ => ?_
      · subst hy
        simp only at run
        split at run
        · assumption
        · cases run
      · cases od with
        | none => exact ⟨S3, acc, m3, run⟩
        | some y =>
          simp only at run
          split at run
          · exact ⟨S3, _, m3, run⟩
          · cases run
  · left
    have hie : i = ds.length := by omega
    subst hie
    rw [List.drop_length] at run
    unfold cmpL at run
    cases run
    refine ⟨wk.stop S' H' mid.post.grow mid.post.ok.sub guard, ?_⟩
    have pb := Post.back I1 ho mid.post
    obtain ⟨vs, hDv, ra⟩ := mid.at_
    have hl : E1.sl.length = E6.sl.length := by
      have h1 := I1.len
      have h2 := mid.post.ok.len
      rw [wipe_length] at h2
      omega
    exact q D H' S' hD pb mid.out (by rw [hDv]; exact .lst ra) (back_own I1 nD hl mid.own)
/-- [elt for target in iter if ..] -/
theorem cmp_read {c : CE} {t : Tg} {it : IT} {cs : CEs} {own : List Nat} (ht : ∀ i ∈ t.slots, i ∈ own) {σ : L2.St} {H : Hp} {Q : VK} (h : tE K C (.cmp c (.mk t it cs) own) σ H Q) :
    tLc (tI K C it) (gT K t) (tTs K C cs) (tE K C c) own σ H Q := by
  obtain ⟨S, E, r, E', I, e, q⟩ := h
  unfold evE at e
  split at e
  · rename_i ds l E1 e1
    split at e
    · rename_i ok
      simp only [Bool.and_eq_true] at ok
      obtain ⟨lf, ho⟩ := ok
      split at e
      · rename_i out E6 e6
        cases e
        refine ⟨S, E, ds, l, E1, I, e1, fun J H1 S1 p1 ⟨G, wk, hG⟩ hlk hlu => ?_⟩
        refine cmp_core ht p1.ok wk hG lf ho e6 fun D H' S' hD pb sD ow no => ?_
        exact q (.ref D) H' S' ((p1.trans pb).unlock (l := l) hlu) (.ow rfl (p1.dom D hD) sD ow (unlock_own no))
      · cases e
    · cases e
  · cases e
/-- behind a comprehension's walk its new list is nobody's -/
theorem end_own {S1 H1 S' H' S H : Hp} {σ : L2.St} {E E1 E6 : Env} {own : List Nat} {D : Addr} {l : Option (Nat × Bool)} (I1 : EnvOk K S1 H1 σ E1) (nD : ¬ Own σ E1 D) (hl : E1.sl.length = E6.sl.length) (no : ¬ Own (wipe σ own) E6 D) : ¬ Own σ (unlock (back E1 E6 own) l) D := by
  intro w
  obtain ⟨i, ⟨d, g⟩, e⟩ := w
  obtain ⟨k, w2, w3⟩ : ∃ k, (back E1 E6 own).isOw k ∧ σ[k]? = some (some (.ref D)) := by
    refine ⟨i, ?_, e⟩
    cases l with
    | none => exact ⟨d, g⟩
    | some ib =>
      obtain ⟨j, b⟩ := ib
      cases b with
      | false => exact ⟨d, g⟩
      | true =>
        unfold unlock at g
        simp only at g
        split at g
        · rename_i d2 g2
          by_cases hij : i = j
          · subst hij; exact ⟨d2, .inr g2⟩
          · rw [get_put_ne hij] at g; exact ⟨d, g⟩
        · exact ⟨d, g⟩
  obtain ⟨q1, q2⟩ := w2
  by_cases hk : k ∈ own
  · rw [back_in hk hl] at q2
    exact nD ⟨k, ⟨q1, q2⟩, w3⟩
  · rw [back_out hk] at q2
    exact no ⟨k, ⟨q1, q2⟩, by rw [wipe_out hk]; exact w3⟩
theorem wipe_wipe {σ : L2.St} {a b : List Nat} (h : ∀ i ∈ a, i ∈ b) : wipe (wipe σ a) b = wipe σ b := by
  exact wipe_ext (wipe_length _ _) fun j hj => wipe_out fun z => hj (h j z)
/-- [elt for target in iter if .. for target2 in iter2 if ..] -/
theorem cmp2_read {c : CE} {t t2 : Tg} {it it2 : IT} {cs cs2 : CEs} {own : List Nat} (ht : ∀ i ∈ t.slots, i ∈ own) (ht2 : ∀ i ∈ t2.slots, i ∈ own) {σ : L2.St} {H : Hp} {Q : VK} (h : tE K C (.cmp2 c (.mk t it cs) (.mk t2 it2 cs2) own) σ H Q) :
    tLc2 (tI K C it) (gT K t) (tTs K C cs) (tI K C it2) (gT K t2) (tTs K C cs2) (tE K C c) own t2.slots σ H Q := by
  obtain ⟨S, E, r, E', I, e, q⟩ := h
  unfold evE at e
  split at e
  · rename_i ds l E1 e1
    split at e
    · rename_i ok
      simp only [Bool.and_eq_true] at ok
      obtain ⟨lf, ho⟩ := ok
      split at e
      · rename_i out E6 e6
        cases e
        refine ⟨S, E, ds, l, E1, I, e1, fun J H1 S1 p1 ⟨G, wk, hG⟩ hlk hlu => ?_⟩
        intro D hD
        have sD : S1 D = none := same_none p1.sub hD
        have nD : ¬ Own σ E1 D := fun z => by
          obtain ⟨o, ho', _⟩ := own_some p1.ok z
          rw [hD] at ho'; cases ho'
        have Iw := wiped p1.ok ho
        have nDw : ¬ Own (wipe σ own) (wipeE E1 own) D := fun z => by
          obtain ⟨o, ho', _⟩ := own_some Iw z
          rw [hD] at ho'; cases ho'
        have hu : ∀ i ∈ own, (wipeE E1 own).get i = .un := fun i hi => wipeE_in hi
        have how : ownOk (wipeE E1 own) own = true := by unfold ownOk; rw [wipeE_len.2]; exact ho
        have start : Mid K S1 H1 (wipe σ own) (wipeE E1 own) D [] S1 (upd H1 D (.lst [])) (wipe σ own) (wipeE E1 own) :=
          ⟨(ext_new p1.sub hD).post Iw, ⟨[], upd_same, .nil⟩, sD, nDw⟩
        refine ⟨fun i m H' => m = ds.length - i ∧ i ≤ ds.length ∧ ∃ S' acc E'', Mid K S1 H1 (wipe σ own) (wipeE E1 own) D acc S' H' (wipe σ own) E'' ∧ cmpLL (turnO t (evT C cs) (evI C it2) (turnF t2 (evT C cs2) (evE C c) t2.slots) own t2.slots) (ds.drop i) acc E'' = some (out, E6),
          ⟨ds.length, by simp, Nat.zero_le _, S1, [], _, start, e6⟩, ?_⟩
        rintro i m H' ⟨rfl, hi, S', acc, E'', mid, run⟩
        have guard : G S' H' := hG S' H' (wipe σ own) E'' mid.post.ok mid.post.grow fun j b hl d hd => by
          have hj := lock_out lf j b hl
          obtain ⟨g1, g2⟩ := mid.post.lkd j d (by rw [wipeE_out hj]; exact hd)
          exact ⟨g1, wipe_out hj⟩
        by_cases hlt : i < ds.length
        · right
          rw [drop_at hlt] at run
          obtain ⟨go, yl⟩ := wk.step S' H' i ds[i] mid.post.grow mid.post.ok.sub guard (List.getElem?_eq_getElem hlt)
          unfold cmpLL at run
          cases f : turnO t (evT C cs) (evI C it2) (turnF t2 (evT C cs2) (evE C c) t2.slots) own t2.slots ds[i] acc E'' with
          | none => rw [f] at run; cases run
          | some p =>
            obtain ⟨acc3, E3⟩ := p
            rw [f] at run
            simp only at run
            refine ⟨go, fun H2 => ∃ S2, Mid K S1 H1 (wipe σ own) (wipeE E1 own) D acc3 S2 H2 (wipe σ own) E3, fun H2 ⟨S2, m2⟩ => ⟨ds.length - (i + 1), by omega, rfl, hlt, S2, acc3, E3, m2, run⟩, fun x H2 hy => ?_⟩
            obtain ⟨S2, ex, rx⟩ := yl x H2 hy
            have pe := ex.post mid.post.ok
            obtain ⟨vs, hDv, ra⟩ := mid.at_
            have m2 : Mid K S1 H1 (wipe σ own) (wipeE E1 own) D acc S2 H2 (wipe σ own) E'' := ⟨mid.post.trans pe, ⟨vs, ex.ext _ _ hDv, ra.mono ex.grow⟩, ex.keepS _ _ hDv mid.out, mid.own⟩
            clear hy yl go run
            unfold turnO at f
            split at f
            · rename_i E2 b2
              refine ⟨S2, E'', ds[i], E2, m2.post.ok, rx, b2, fun σ2 p2 same len => ?_⟩
              have wq : wipe σ2 own = wipe σ own := by
                have := wipe_ext (σ := wipe σ own) (own := own) len fun j hj => same j fun z => hj (ht j z)
                rw [this]
                exact wipe_ext (wipe_length _ _) fun j hj => wipe_out hj
              -- what the turn comes to, wherever it ends
              have fin : ∀ {S5 H5 : Hp} {τ : L2.St} {E5 : Env} {acc5 : List Fi.D}, wipe τ own = wipe σ own → Post K S1 H1 (wipe σ own) (wipeE E1 own) S5 H5 τ E5 → (∃ vs, H5 D = some (.lst vs) ∧ RepL K S5 acc5 vs) → S5 D = none → ¬ Own τ E5 D → Mid K S1 H1 (wipe σ own) (wipeE E1 own) D acc5 S5 H5 (wipe σ own) (wipeE E5 own) := fun {S5 H5 τ E5 acc5} wt p5 at5 s5 n5 => by
                have pw := p5.wipe hu how
                rw [wt] at pw
                refine ⟨pw, at5, s5, fun ⟨i, ⟨q, g⟩, e⟩ => ?_⟩
                have hi : i ∉ own := fun h => by rw [wipeE_in h] at g; rcases g with g | g <;> cases g
                rw [wipeE_out hi] at g
                rw [← wt, wipe_out hi] at e
                exact n5 ⟨i, ⟨q, g⟩, e⟩
              split at f
              · rename_i E3' e3
                refine ⟨wq, S2, E2, true, E3', p2.ok, e3, fun H3 S3 p3 => ?_⟩
                refine iteT ?_
                split at f
                · rename_i ds2 l2 E4 e4
                  split at f
                  · rename_i lf2
                    split at f
                    · rename_i acc' E9 e9
                      cases f
                      have pm0 : Post K S2 H2 (wipe σ own) E'' S3 H3 σ2 E3' := p2.trans p3
                      refine ⟨S3, E3', ds2, l2, E4, p3.ok, e4, fun J1 H4 S4 p4 ⟨G2, wk2, hG2⟩ hlk2 hlu2 => ?_⟩
                      have pm : Post K S2 H2 (wipe σ own) E'' S4 H4 σ2 E4 := pm0.trans p4
                      have hD4 := pm.frame D _ m2.own (by obtain ⟨v, h, _⟩ := m2.at_; exact m2.at_.choose_spec.1)
                      have sD4 := pm.keepS D _ m2.own m2.at_.choose_spec.1 m2.out
                      have rD4 : RepL K S4 acc m2.at_.choose := m2.at_.choose_spec.2.mono pm.grow
                      have nD4 : ¬ Own σ2 E4 D := fun z => (pm.own D z).elim m2.own fun z => by rw [m2.at_.choose_spec.1] at z; cases z
                      have ho2 : ownOk E4 t2.slots = true := by
                        unfold ownOk
                        rw [List.all_eq_true]
                        intro j hj
                        have h1 : E4.ro = E1.ro := by rw [pm.roE, m2.post.roE, wipeE_len.2]
                        unfold ownOk at ho
                        rw [List.all_eq_true] at ho
                        rw [h1]
                        exact ho j (ht2 j hj)
                      have I4 := wiped p4.ok ho2
                      have nD4w : ¬ Own (wipe σ2 t2.slots) (wipeE E4 t2.slots) D := fun ⟨i, ⟨q, g⟩, e⟩ => by
                        have hi : i ∉ t2.slots := fun h => by rw [wipeE_in h] at g; rcases g with g | g <;> cases g
                        rw [wipeE_out hi] at g
                        rw [wipe_out hi] at e
                        exact nD4 ⟨i, ⟨q, g⟩, e⟩
                      have hwb : ∀ i ∈ t2.slots, (wipeE E1 own).get i = .un := fun i hi => hu i (ht2 i hi)
                      have how3 : ownOk (wipeE E1 own) t2.slots = true := by
                        unfold ownOk at ho ⊢
                        rw [List.all_eq_true] at ho ⊢
                        intro j hj
                        rw [wipeE_len.2]; exact ho j (ht2 j hj)
                      have pb4 := (m2.post.trans pm).wipe hwb how3
                      have start2 : Mid K S1 H1 (wipe σ own) (wipeE E1 own) D acc S4 H4 (wipe σ2 t2.slots) (wipeE E4 t2.slots) := ⟨pb4, ⟨_, hD4, rD4⟩, sD4, nD4w⟩
                      refine ⟨fun j k H5 => k = ds2.length - j ∧ j ≤ ds2.length ∧ ∃ S5 acc5 E5, Mid K S1 H1 (wipe σ own) (wipeE E1 own) D acc5 S5 H5 (wipe σ2 t2.slots) E5 ∧ Same S4 S5 ∧ LockIn E4 σ2 E5 (wipe σ2 t2.slots) l2 ∧ cmpL (turnF t2 (evT C cs2) (evE C c) t2.slots) (ds2.drop j) acc5 E5 = some (acc3, E9),
                        ⟨ds2.length, by simp, Nat.zero_le _, S4, acc, _, start2, .refl _, fun j b hl d hd => by
                          have hj := lock_out lf2 j b hl
                          exact ⟨by rw [wipeE_out hj]; exact hd, wipe_out hj⟩, e9⟩, ?_⟩
                      rintro j k H5 ⟨rfl, hj, S5, acc5, E5, mid5, s45, lk5, run5⟩
                      have guard5 : G2 S5 H5 := hG2 S5 H5 (wipe σ2 t2.slots) E5 mid5.post.ok s45 lk5
                      by_cases hlt2 : j < ds2.length
                      · right
                        rw [drop_at hlt2] at run5
                        obtain ⟨go5, yl5⟩ := wk2.step S5 H5 j ds2[j] s45 mid5.post.ok.sub guard5 (List.getElem?_eq_getElem hlt2)
                        unfold cmpL at run5
                        cases f5 : turnF t2 (evT C cs2) (evE C c) t2.slots ds2[j] E5 with
                        | none => rw [f5] at run5; cases run5
                        | some p =>
                          obtain ⟨od, E6'⟩ := p
                          rw [f5] at run5
                          refine ⟨go5, fun H6 => ∃ S6 acc6, Mid K S1 H1 (wipe σ own) (wipeE E1 own) D acc6 S6 H6 (wipe σ2 t2.slots) E6' ∧ Same S4 S6 ∧ LockIn E4 σ2 E6' (wipe σ2 t2.slots) l2 ∧ cmpL (turnF t2 (evT C cs2) (evE C c) t2.slots) (ds2.drop (j + 1)) acc6 E6' = some (acc3, E9), fun H6 ⟨S6, acc6, m6, s6, l6, r6⟩ => ⟨ds2.length - (j + 1), by omega, rfl, hlt2, S6, acc6, E6', m6, s6, l6, r6⟩, fun x5 H6 hy5 => ?_⟩
                          obtain ⟨S6, ex6, rx6⟩ := yl5 x5 H6 hy5
                          obtain ⟨vs5, hDv5, ra5⟩ := mid5.at_
                          have mid6 : Mid K S1 H1 (wipe σ own) (wipeE E1 own) D acc5 S6 H6 (wipe σ2 t2.slots) E5 := ⟨mid5.post.trans (ex6.post mid5.post.ok), ⟨vs5, ex6.ext _ _ hDv5, ra5.mono ex6.grow⟩, ex6.keepS _ _ hDv5 mid5.out, mid5.own⟩
                          refine turn_read hD sD hwb how3 (fun i hi => hi) mid6 rx6 f5 (fun y hy => ?_) fun S7 H7 m7 s67 lk7 => ?_
                          · subst hy
                            simp only at run5
                            split at run5
                            · assumption
                            · cases run5
                          · have l7 : LockIn E4 σ2 E6' (wipe σ2 t2.slots) l2 := fun a b hl d hd => by
                              obtain ⟨q1, q2⟩ := lk5 a b hl d hd
                              exact ⟨lk7 a d (lock_out lf2 a b hl) q1, q2⟩
                            have s47 := (s45.trans ex6.grow).trans s67
                            cases od with
                            | none => exact ⟨S7, acc5, m7, s47, l7, run5⟩
                            | some y =>
                              simp only at run5
                              split at run5
                              · exact ⟨S7, _, m7, s47, l7, run5⟩
                              · cases run5
                      · left
                        have hje : j = ds2.length := by omega
                        subst hje
                        rw [List.drop_length] at run5
                        unfold cmpL at run5
                        cases run5
                        refine ⟨wk2.stop S5 H5 s45 mid5.post.ok.sub guard5, S5, ?_⟩
                        have pu := mid5.post.unlock (l := l2) fun i hl d hd => by
                          have := ((m2.post.trans pm0).lkd i d hd).1
                          exact hlu2 i hl d this
                        refine fin ((wipe_wipe ht2).trans wq) pu mid5.at_ mid5.out fun w => mid5.own ?_
                        obtain ⟨i, ⟨d, g⟩, e⟩ := w
                        refine ⟨i, ?_, e⟩
                        cases l2 with
                        | none => exact ⟨d, g⟩
                        | some ib =>
                          obtain ⟨jj, b⟩ := ib
                          cases b with
                          | false => exact ⟨d, g⟩
                          | true =>
                            unfold unlock at g
                            simp only at g
                            split at g
                            · rename_i d2 g2
                              by_cases hij : i = jj
                              · subst hij; exact ⟨d2, .inr g2⟩
                              · rw [get_put_ne hij] at g; exact ⟨d, g⟩
                            · exact ⟨d, g⟩
                    · cases f
                  · cases f
                · cases f
              · rename_i E3' e3
                cases f
                refine ⟨wq, S2, E2, false, E3', p2.ok, e3, fun H3 S3 p3 => ?_⟩
                refine iteF ?_
                have pm : Post K S2 H2 (wipe σ own) E'' S3 H3 σ2 E3' := p2.trans p3
                obtain ⟨vs, hD2, ra2⟩ := m2.at_
                exact ⟨S3, fin wq (m2.post.trans pm) ⟨vs, pm.frame D _ m2.own hD2, ra2.mono pm.grow⟩ (pm.keepS D _ m2.own hD2 m2.out) fun z => (pm.own D z).elim m2.own fun z => by rw [hD2] at z; cases z⟩
              · cases f
            · cases f
        · left
          have hie : i = ds.length := by omega
          subst hie
          rw [List.drop_length] at run
          unfold cmpLL at run
          cases run
          refine ⟨wk.stop S' H' mid.post.grow mid.post.ok.sub guard, ?_⟩
          have pb := Post.back p1.ok ho mid.post
          have pall := (p1.trans pb).unlock (l := l) hlu
          obtain ⟨vs, hDv, ra⟩ := mid.at_
          have hl : E1.sl.length = E6.sl.length := by
            have h1 := p1.ok.len
            have h2 := mid.post.ok.len
            rw [wipe_length] at h2
            omega
          exact q (.ref D) H' S' pall (.ow rfl (p1.dom D hD) mid.out (by rw [hDv]; exact .lst ra) (end_own (S := S) (H := H) (E := E) (S' := S') (H' := H') p1.ok nD hl mid.own))
      · cases e
    · cases e
  · cases e
end
end Fi
end

section
/-! FiHide: a comprehension over a dict's keys: its slot put away meanwhile. sorted(set(..)), list(range(..)). Own work. -/
namespace Fi
open PySem PySem.Spec L2
variable [J : HW]
section
variable {K : PySem.W.Frag} {C : Ctx} {S S3 H H3 : Hp} {σ : L2.St} {E E3 : Env} {a : Addr} {od : Obj} {es : List (Key × V)} {i : Nat} {kvs : List (DKey × D)}
/-- S without a -/
def dropA (S : Hp) (a : Addr) : Hp := fun b => if b = a then none else S b
theorem dropA_ne {b : Addr} (h : b ≠ a) : dropA S a b = S b := by unfold dropA; rw [if_neg h]
theorem dropA_same : dropA S a a = none := by unfold dropA; rw [if_pos rfl]
theorem sqT_drop (h : S a = some (.frz od (.dK es))) {b : Addr} {xs : List V} (q : SqT K S b xs) : SqT K (dropA S a) b xs := by
  rcases q with (q | ⟨o, q⟩) | q
  · exact .inl (.inl (by rw [dropA_ne (fun z => by rw [z, h] at q; cases q)]; exact q))
  · exact .inl (.inr ⟨o, by rw [dropA_ne (fun z => by rw [z, h] at q; cases q)]; exact q⟩)
  · exact .inr q
theorem plT_drop (h : S a = some (.frz od (.dK es))) {b : Addr} {xs : List V} (q : PlT K S b xs) : PlT K (dropA S a) b xs := by
  rcases q with ⟨o, q, d⟩ | q
  · exact .inl ⟨o, by rw [dropA_ne (fun z => by rw [z, h] at q; cases q)]; exact q, d⟩
  · exact .inr q
theorem sqL_drop (h : S a = some (.frz od (.dK es))) {b : Addr} {xs : List V} (q : SqL K S b xs) : SqL K (dropA S a) b xs := by
  rcases q with (q | ⟨o, q⟩) | q
  · exact .inl (.inl (by rw [dropA_ne (fun z => by rw [z, h] at q; cases q)]; exact q))
  · exact .inl (.inr ⟨o, by rw [dropA_ne (fun z => by rw [z, h] at q; cases q)]; exact q⟩)
  · exact .inr q
mutual
theorem Rep.drop (h : S a = some (.frz od (.dK es))) : ∀ {d : D} {v : V}, Rep K S d v → Rep K (dropA S a) d v
  | _, _, .non => .non
  | _, _, .bl b => .bl b
  | _, _, .int i => .int i
  | _, _, .str x => .str x
  | _, _, .ty n => .ty n
  | _, _, .tup q r => .tup (plT_drop h q) (RepL.drop_ h r)
  | _, _, .lst q r => .lst (by rw [dropA_ne (fun z => by rw [z, h] at q; cases q)]; exact q) (RepL.drop_ h r)
  | _, _, .dK q r => .dK (by rw [dropA_ne (fun z => by rw [z, h] at q; cases q)]; exact q) (RepK.drop h r)
  | _, _, .dT q r => .dT (by rw [dropA_ne (fun z => by rw [z, h] at q; cases q)]; exact q) (RepT.drop h r)
  | _, _, .scr q => .scr (sqL_drop h q)
theorem RepL.drop_ (h : S a = some (.frz od (.dK es))) : ∀ {ds : List D} {vs : List V}, RepL K S ds vs → RepL K (dropA S a) ds vs
  | _, _, .nil => .nil
  | _, _, .cons q r => .cons (Rep.drop h q) (RepL.drop_ h r)
theorem RepK.drop (h : S a = some (.frz od (.dK es))) : ∀ {ds : List (DKey × D)} {vs : List (Key × V)}, RepK K S ds vs → RepK K (dropA S a) ds vs
  | _, _, .nil => .nil
  | _, _, .cons k q r => .cons k (Rep.drop h q) (RepK.drop h r)
theorem RepT.drop (h : S a = some (.frz od (.dK es))) : ∀ {ds : List (DKey × D)} {vs : List (NestedKey × Addr × Value)}, RepT K S ds vs → RepT K (dropA S a) ds vs
  | _, _, .nil => .nil
  | _, _, .cons k w q r => .cons (Rep.drop h k) w (Rep.drop h q) (RepT.drop h r)
end
theorem OwnAt.drop (h : S a = Option.some (.frz od (.dK es))) {o : Option HO} {d : D} (q : OwnAt K S o d) : OwnAt K (dropA S a) o d := by
  cases q with
  | lst r => exact .lst (r.drop_ h)
  | dK r => exact .dK (r.drop h)
  | dT r => exact .dT (r.drop h)
theorem hide_ne {j : Nat} (h : j ≠ i) : (hide E i).get j = E.get j := get_put_ne (E := E) h
theorem hide_same (h : i < E.sl.length) : (hide E i).get i = .un := get_put_same (E := E) h
theorem unhide_ne {d : D} {ro : List Nat} {j : Nat} (h : j ≠ i) : (unhide E i d ro).get j = E.get j := get_put_ne (E := E) h
theorem unhide_same {d : D} {ro : List Nat} (h : i < E.sl.length) : (unhide E i d ro).get i = .ow d := get_put_same (E := E) h
/-- put away -/
theorem hide_ok (I : EnvOk K S H σ E) (g : E.get i = .ow (.dct false kvs)) (ea : σ[i]? = some (some (.ref a))) (sa : S a = none) (ha : H a = some (.dK es)) :
    EnvOk K (upd S a (.frz od (.dK es))) (upd H a (.frz od (.dK es))) σ (hide E i) := by
  have hi := get_lt g (by simp)
  have owi : E.isOw i := ⟨_, .inl g⟩
  have ne : ∀ j, (hide E i).get j ≠ .un → j ≠ i := fun j h e => by subst e; exact h (hide_same hi)
  have gr : Same S (upd S a (.frz od (.dK es))) := same_upd sa
  refine ⟨same_upd2 I.sub, by rw [I.len]; simp [hide], fun j d h => ?_, fun j d h => ?_, fun j k b h1 h2 e1 e2 => ?_, fun j hj => ?_⟩
  · have hj := ne j (by rw [h]; simp)
    rw [hide_ne hj] at h
    obtain ⟨v, e, r⟩ := I.sh j d h
    exact ⟨v, e, r.mono gr⟩
  · have hj := ne j (by rcases h with h | h <;> rw [h] <;> simp)
    rw [hide_ne hj] at h
    obtain ⟨b, e, s, o⟩ := I.ow j d h
    have hb : b ≠ a := fun z => hj (I.inj j i a ⟨d, h⟩ owi (by rw [← z]; exact e) ea)
    exact ⟨b, e, by rw [upd_ne hb]; exact s, by rw [upd_ne hb]; exact o.mono gr⟩
  · obtain ⟨d1, h1⟩ := h1
    obtain ⟨d2, h2⟩ := h2
    have hj := ne j (by rcases h1 with h | h <;> rw [h] <;> simp)
    have hk := ne k (by rcases h2 with h | h <;> rw [h] <;> simp)
    rw [hide_ne hj] at h1
    rw [hide_ne hk] at h2
    exact I.inj j k b ⟨d1, h1⟩ ⟨d2, h2⟩ e1 e2
  · rcases List.mem_cons.mp hj with rfl | hj
    · exact ⟨a, ea, .inr (by rw [upd_same]; simp)⟩
    · obtain ⟨b, e, h⟩ := I.ro j hj
      by_cases hji : j = i
      · subst hji
        rw [ea] at e; cases e
        exact ⟨a, ea, .inr (by rw [upd_same]; simp)⟩
      · refine ⟨b, e, ?_⟩
        rcases h with ⟨d, h⟩ | h
        · exact .inl ⟨d, by rw [hide_ne hji]; exact h⟩
        · right
          by_cases hb : b = a
          · subst hb; rw [upd_same]; simp
          · rw [upd_ne hb]; exact h
theorem own_hide (I : EnvOk K S H σ E) (g : E.get i = .ow (.dct false kvs)) {b : Addr} (h : Own σ (hide E i) b) : Own σ E b := by
  have hi := get_lt g (by simp)
  obtain ⟨j, ⟨d, h⟩, e⟩ := h
  have hj : j ≠ i := fun z => by subst z; rw [hide_same hi] at h; rcases h with h | h <;> cases h
  rw [hide_ne hj] at h
  exact ⟨j, ⟨d, h⟩, e⟩
/-- .. and there again -/
theorem unhide_ok (I : EnvOk K S H σ E) (g : E.get i = .ow (.dct false kvs)) (ea : σ[i]? = some (some (.ref a))) (sa : S a = none) (ha : H a = some (.dK es)) (rk : RepK K S kvs es)
    (p : Post K (upd S a (.frz od (.dK es))) (upd H a (.frz od (.dK es))) σ (hide E i) S3 H3 σ E3) :
    H3 a = some (.frz od (.dK es)) ∧ S3 a = some (.frz od (.dK es)) ∧ Post K S H σ E (dropA S3 a) (upd H3 a (.dK es)) σ (unhide E3 i (.dct false kvs) E.ro) := by
  have hi := get_lt g (by simp)
  have hi3 : i < E3.sl.length := by
    have h1 := p.ok.len
    have h2 := I.len
    omega
  have owi : E.isOw i := ⟨_, .inl g⟩
  have owa : Own σ E a := ⟨i, owi, ea⟩
  have s3 : S3 a = some (.frz od (.dK es)) := p.grow _ _ upd_same
  have h3 : H3 a = some (.frz od (.dK es)) := p.ok.sub _ _ s3
  have gr : Same S (dropA S3 a) := fun b o e => by
    have hb : b ≠ a := fun z => by rw [z, sa] at e; cases e
    rw [dropA_ne hb]
    exact p.grow _ _ (by rw [upd_ne hb]; exact e)
  have nea : ∀ {j : Nat} {b : Addr}, E3.isOw j → σ[j]? = some (some (.ref b)) → b ≠ a := fun {j b} w e z => by
    obtain ⟨d, w⟩ := w
    obtain ⟨c, e2, s, _⟩ := p.ok.ow j d w
    rw [e] at e2; cases e2
    rw [z, s3] at s; cases s
  have isow : ∀ {j : Nat}, (unhide E3 i (.dct false kvs) E.ro).isOw j → j ≠ i → E3.isOw j := fun {j} ⟨d, w⟩ hj => ⟨d, by rwa [unhide_ne hj] at w⟩
  refine ⟨h3, s3, ⟨⟨fun b o e => ?_, by rw [p.ok.len]; simp [unhide], fun j d h => ?_, fun j d h => ?_, fun j k b h1 h2 e1 e2 => ?_, fun j hj => ?_⟩, gr, fun b o n e => ?_, fun b o n e s => ?_, fun b e => ?_, fun b h => ?_, rfl, fun _ _ => rfl, fun j d h => ⟨?_, rfl⟩⟩⟩
  · have hb : b ≠ a := fun z => by rw [z, dropA_same] at e; cases e
    rw [dropA_ne hb] at e
    rw [upd_ne hb]
    exact p.ok.sub _ _ e
  · have hj : j ≠ i := fun z => by subst z; rw [unhide_same hi3] at h; cases h
    rw [unhide_ne hj] at h
    obtain ⟨v, e, r⟩ := p.ok.sh j d h
    exact ⟨v, e, r.drop s3⟩
  · by_cases hj : j = i
    · subst hj
      rw [unhide_same hi3] at h
      rcases h with h | h
      · cases h
        exact ⟨a, ea, dropA_same, by rw [upd_same]; exact .dK (rk.mono gr)⟩
      · cases h
    · rw [unhide_ne hj] at h
      obtain ⟨b, e, s, o⟩ := p.ok.ow j d h
      have hb := nea ⟨d, h⟩ e
      exact ⟨b, e, by rw [dropA_ne hb]; exact s, by rw [upd_ne hb]; exact o.drop s3⟩
  · by_cases hj : j = i
    · by_cases hk : k = i
      · rw [hj, hk]
      · subst hj
        rw [ea] at e1; cases e1
        exact absurd rfl (nea (isow h2 hk) e2)
    · by_cases hk : k = i
      · subst hk
        rw [ea] at e2; cases e2
        exact absurd rfl (nea (isow h1 hj) e1)
      · exact p.ok.inj j k b (isow h1 hj) (isow h2 hk) e1 e2
  · obtain ⟨b, e, h⟩ := p.ok.ro j (by rw [p.roE]; exact List.mem_cons_of_mem _ hj)
    by_cases hji : j = i
    · subst hji
      exact ⟨b, e, .inl ⟨_, .inl (unhide_same hi3)⟩⟩
    · refine ⟨b, e, ?_⟩
      rcases h with ⟨d, h⟩ | h
      · exact .inl ⟨d, by rw [unhide_ne hji]; exact h⟩
      · by_cases hb : b = a
        · subst hb
          obtain ⟨c, e2, h2⟩ := I.ro j hj
          rw [e] at e2; cases e2
          rcases h2 with w | h2
          · exact absurd (I.inj j i _ w owi e ea) hji
          · exact absurd sa h2
        · exact .inr (by rw [dropA_ne hb]; exact h)
  · have hb : b ≠ a := fun z => n (by rw [z]; exact owa)
    rw [upd_ne hb]
    exact p.frame b o (fun w => n (own_hide I g w)) (by rw [upd_ne hb]; exact e)
  · have hb : b ≠ a := fun z => n (by rw [z]; exact owa)
    rw [dropA_ne hb]
    exact p.keepS b o (fun w => n (own_hide I g w)) (by rw [upd_ne hb]; exact e) (by rw [upd_ne hb]; exact s)
  · have hb : b ≠ a := fun z => by rw [z, upd_same] at e; cases e
    rw [upd_ne hb] at e
    have := p.dom b e
    rwa [upd_ne hb] at this
  · obtain ⟨j, w, e⟩ := h
    by_cases hj : j = i
    · subst hj
      rw [ea] at e; cases e
      exact .inl owa
    · rcases p.own b ⟨j, isow w hj, e⟩ with z | z
      · exact .inl (own_hide I g z)
      · by_cases hb : b = a
        · subst hb; exact .inl owa
        · rw [upd_ne hb] at z; exact .inr z
  · have hj : j ≠ i := fun z => by subst z; rw [g] at h; cases h
    rw [unhide_ne hj]
    exact (p.lkd j d (by rw [hide_ne hj]; exact h)).1
end
end Fi
end

section
namespace Fi
open PySem PySem.Spec L2
variable [J : HW]
section
variable {X : Cx} {N : List Str} {sc W : Nms} {C : Ctx} {F : List (Str × Nat)} {n : Nat}
theorem rep_ofKey {K : PySem.W.Frag} {S : Hp} {k : DKey} {j : Key} (h : k.toKey = some j) : Rep K S k.d (kV j) := by
  cases k with
  | i n => cases h; exact .int n
  | s x => cases h; exact .str x
  | t xs => cases h
theorem repK_get {K : PySem.W.Frag} {S : Hp} : ∀ {kvs : List (DKey × D)} {es : List (Key × V)}, RepK K S kvs es → ∀ {i : Nat} {d : D}, (kvs.map fun kv => kv.1.d)[i]? = some d → ∃ k v, es[i]? = some (k, v) ∧ Rep K S d (kV k)
  | _, _, .nil, i, d, h => by simp at h
  | _, _, .cons (j := j) (v := v) hk hr r, 0, d, h => by
    simp only [List.map_cons, List.getElem?_cons_zero, Option.some.injEq] at h
    subst h
    exact ⟨j, v, rfl, rep_ofKey hk⟩
  | _, _, .cons hk hr r, i + 1, d, h => by
    simp only [List.map_cons, List.getElem?_cons_succ] at h
    obtain ⟨k, v, e, q⟩ := repK_get r h
    exact ⟨k, v, by simpa using e, q⟩
theorem walk_keys {K : PySem.W.Frag} {S0 : Hp} {a : Addr} {od : Obj} {kvs : List (DKey × D)} {es : List (Key × V)} (h : S0 a = some (.frz od (.dK es))) (r : RepK K S0 kvs es) : WalkOk K (Itk a od es) S0 (fun _ _ => True) (kvs.map fun kv => kv.1.d) := by
  refine ⟨fun S H i d s0 s1 _ hd => ?_, fun S H s0 s1 _ => ?_⟩
  · obtain ⟨k, v, e, q⟩ := repK_get r hd
    refine ⟨⟨s1 _ _ (s0 _ _ h), (List.getElem?_eq_some_iff.mp e).1⟩, fun x H' hy => ?_⟩
    obtain ⟨rfl, k', v', e', rfl⟩ := hy
    rw [e] at e'; cases e'
    exact ⟨S, .refl s1, q.mono s0⟩
  · refine ⟨s1 _ _ (s0 _ _ h), ?_⟩
    rw [List.length_map]
    have := repK_len r
    omega
theorem cmpV_read {K : PySem.W.Frag} {c : CE} {t : Tg} {i : Nat} {cs : CEs} {own : List Nat} (ht : ∀ i ∈ t.slots, i ∈ own) {σ : L2.St} {H : Hp} {Q : VK} (h : tE K C (.cmpV c t i cs own) σ H Q) :
    tLc (tI K C (.seq (.var i))) (gT K t) (tTs K C cs) (tE K C c) own σ H Q ∨ tLockE (tLc (iKeys (tVar i)) (gT K t) (tTs K C cs) (tE K C c) own) σ H Q := by
  obtain ⟨S, E, r, E', I, e, q⟩ := h
  unfold evE at e
  split at e
  · -- a dict
    rename_i kvs hk
    right
    have g : E.get i = .ow (.dct false kvs) := by
      unfold dictAt at hk
      split at hk
      · rename_i kvs' g; cases hk; exact g
      · cases hk
    split at e
    · rename_i ho
      split at e
      · rename_i out E6 e6
        cases e
        obtain ⟨a, ea, sa, o⟩ := I.ow i _ (.inl g)
        generalize z : H a = w at o
        cases o with
        | @dK es _ rk =>
          refine ⟨a, _, z, trivial, fun od => ?_⟩
          have I2 := hide_ok (od := od) I g ea sa z
          refine ⟨_, ea, a, od, rfl, .inl ⟨es, upd_same, ?_⟩⟩
          refine cmp_core (Q := fun v H' => H' a = some (.frz od (.dK es)) ∧ Q v (upd H' a (.dK es))) ht (l := none) I2 (walk_keys (upd_same) (rk.mono (same_upd sa))) (fun _ _ _ _ _ _ _ => trivial) rfl ho e6 fun D H' S' hD pb sD ow no => ?_
          obtain ⟨h3, s3, P⟩ := unhide_ok I g ea sa z rk pb
          have hDa : D ≠ a := fun z2 => by rw [z2, upd_same] at hD; cases hD
          refine ⟨h3, q (.ref D) _ _ P (.ow rfl (by rw [upd_ne hDa] at hD; exact hD) (by rw [dropA_ne hDa]; exact sD) (by rw [upd_ne hDa]; exact ow.drop s3) fun ⟨j, ⟨d, w⟩, e⟩ => ?_)⟩
          by_cases hj : j = i
          · subst hj
            rw [ea] at e; cases e
            exact hDa rfl
          · rw [unhide_ne hj] at w
            exact no ⟨j, ⟨d, w⟩, e⟩
      · cases e
    · cases e
  · -- no dict
    left
    refine cmp_read ht ⟨S, E, r, E', I, ?_, q⟩
    rw [← e]
    rename_i hk
    unfold evE evI evE lockVar
    cases g : E.get i with
    | un => simp only [g]
    | sh d => simp only [g, lock]; cases z : seqD d <;> simp only [z, Option.map_none, Option.map_some]
    | ow d => simp only [g, lock]; cases z : seqD d <;> simp only [z, Option.map_none, Option.map_some]
    | lk d => simp only [g, lock]; cases z : seqD d <;> simp only [z, Option.map_none, Option.map_some]
end
end Fi
end

section
namespace Fi
open PySem PySem.Spec L2
variable [J : HW]
theorem allTx_map (ts : List Txt) : allTx (ts.map strOf) = (allT ts).map strOf := by
  have go : ∀ (ts : List Txt) (L : List Txt), (ts.map strOf).foldl putTx (L.map strOf) = (ts.foldl putT L).map strOf := by
    intro ts
    induction ts with
    | nil => intro L; rfl
    | cons t ts ih =>
      intro L
      have e : putTx (L.map strOf) (strOf t) = (putT L t).map strOf := by
        unfold putTx putT
        have m : strOf t ∈ L.map strOf ↔ t ∈ L := by
          constructor
          · intro h
            obtain ⟨u, hu, e⟩ := List.mem_map.mp h
            rw [strOf_inj.mp e] at hu; exact hu
          · exact fun h => List.mem_map_of_mem h
        by_cases h : t ∈ L
        · rw [if_pos h, if_pos (m.mpr h)]
        · rw [if_neg h, if_neg (fun z => h (m.mp z)), List.map_append]; rfl
      show (ts.map strOf).foldl putTx (putTx (L.map strOf) (strOf t)) = (ts.foldl putT (putT L t)).map strOf
      rw [e, ih]
  exact go ts []
theorem setTx_map (ts : List Txt) : (allTx (ts.map strOf)).mergeSort leS = (setT ts).map strOf := by
  rw [allTx_map]
  unfold setT
  refine (List.map_mergeSort (f := strOf) (s := leS) fun a _ b _ => ?_).symm
  unfold leT leS
  rw [strOf_cps, strOf_cps]
section
variable {X : Cx} {N : List Str} {sc W : Nms} {C : Ctx} {F : List (Str × Nat)} {n : Nat}
theorem txts_repL {K : PySem.W.Frag} {S : Hp} : ∀ (xs : List Txt), RepL K S (xs.map .str) (xs.map fun x => V.str (strOf x))
  | [] => .nil
  | x :: xs => .cons (.str x) (txts_repL xs)
theorem so_sset (O : Ok X N sc C F n) {a : Expr} {c : CE} {p p2 q pos : Pos} (h1 : sc.lookup ("sorted" : Str) = some NameKind.globalImplicit) (h2 : sc.lookup ("set" : Str) = some NameKind.globalImplicit) (hs : isStar a = false) (h : PE X a (tE X.K C c)) :
    PE X (.Call (.Name "sorted" p) [.Call (.Name "set" p2) [a] [] q] [] pos) (tE X.K C (.sset c)) := by
  refine PE.imp (pe_sset O.calm (by have := O.room.un; omega) (O.gl h1) (O.blt "sorted" (by decide)) (O.gl h2) (O.blt "set" (by decide)) h (star_cons hs)) fun σ H Q ⟨S, E, r, E', I, e, qq⟩ => ?_
  unfold evE at e
  split at e
  · rename_i ra E1 e1
    split at e
    · rename_i xs va
      simp only [Option.bind_eq_some_iff] at e
      obtain ⟨ts, ht, e⟩ := e
      split at e
      · rename_i few
        cases e
        refine op_kept I e1 fun x H1 S1 p1 l1 => ?_
        have vx := l1.vw p1.ok (by rw [vw_fz]; exact va)
        obtain ⟨b, us, rfl, ha, rl⟩ := vx.lst p1.sub
        have e2 := txts_rep rl ht
        have e3 : us = (ts.map strOf).map V.str := by rw [e2, List.map_map]; rfl
        refine ⟨b, ts.map strOf, rfl, by rw [← e3]; exact .of ha, by rw [List.length_map]; exact few, fun p hp => ?_⟩
        rw [setTx_map, List.map_map]
        exact op_end (p := .fr (.lst ((setT ts).map .str))) I qq p1 (ext_new p1.sub hp) (new_fr p1.sub hp (.lst (txts_repL _)))
      · cases e
    · cases e
  · cases e
theorem rg_repL {K : PySem.W.Frag} {S : Hp} (a : Int) (m : Nat) : RepL K S ((List.range m).map fun (k : Nat) => D.int (a + k)) ((List.range m).map fun (k : Nat) => V.int (a + k)) := by
  induction List.range m with
  | nil => exact .nil
  | cons k l ih => exact .cons (.int _) ih
theorem so_lrng1 (O : Ok X N sc C F n) {a : Expr} {c : CE} {p p2 q pos : Pos} (h1 : sc.lookup ("list" : Str) = some NameKind.globalImplicit) (h2 : sc.lookup ("range" : Str) = some NameKind.globalImplicit) (hs : isStar a = false) (h : PE X a (tE X.K C c)) :
    PE X (.Call (.Name "list" p) [.Call (.Name "range" p2) [a] [] q] [] pos) (tE X.K C (.lrng (.rng1 c))) := by
  refine PE.imp (pe_listRg O.calm (O.gl h1) (O.blt "list" (by decide)) (prg_1 (O.gl h2) (O.blt "range" (by decide)) h (star_cons hs))) fun σ H Q ⟨S, E, r, E', I, e, qq⟩ => ?_
  unfold evE at e
  split at e
  · rename_i ds E1 e1
    split at e
    · rename_i big
      cases e
      unfold evI at e1
      split at e1
      · rename_i ra E2 e2
        split at e1
        · rename_i m va
          simp only [Option.map_eq_some_iff] at e1
          obtain ⟨ds', hr, e1⟩ := e1
          cases e1
          obtain ⟨b1, b2, b3, b4, rfl⟩ := rng_ok hr
          refine op_kept I e2 fun x H1 S1 p1 l1 => ?_
          have := (l1.vw p1.ok (by rw [vw_fz]; exact va)).int
          subst this
          rw [List.length_map, List.length_range] at big
          refine ⟨m, rfl, ⟨b1, b2, b3, b4, by unfold bigLine at big; omega⟩, fun p hp => ?_⟩
          exact op_end (p := .fr (.lst _)) I qq p1 (ext_new p1.sub hp) (new_fr p1.sub hp (.lst (rg_repL 0 (m - 0).toNat)))
        · cases e1
      · cases e1
    · cases e
  · cases e
theorem so_lrng2 (O : Ok X N sc C F n) {a b : Expr} {c d : CE} {p p2 q pos : Pos} (h1 : sc.lookup ("list" : Str) = some NameKind.globalImplicit) (h2 : sc.lookup ("range" : Str) = some NameKind.globalImplicit) (hs : isStar a = false) (ht : isStar b = false) (h : PE X a (tE X.K C c)) (h' : PE X b (tE X.K C d)) :
    PE X (.Call (.Name "list" p) [.Call (.Name "range" p2) [a, b] [] q] [] pos) (tE X.K C (.lrng (.rng2 c d))) := by
  refine PE.imp (pe_listRg O.calm (O.gl h1) (O.blt "list" (by decide)) (prg_2 (O.gl h2) (O.blt "range" (by decide)) h h' (star_cons hs) (star_cons ht) (star_any (by simp [ht])))) fun σ H Q ⟨S, E, r, E', I, e, qq⟩ => ?_
  unfold evE at e
  split at e
  · rename_i ds E1 e1
    split at e
    · rename_i big
      cases e
      unfold evI at e1
      split at e1
      · rename_i ra E2 e2
        split at e1
        · rename_i rb E3 e3
          split at e1
          · rename_i m k va vb
            simp only [Option.map_eq_some_iff] at e1
            obtain ⟨ds', hr, e1⟩ := e1
            cases e1
            obtain ⟨b1, b2, b3, b4, rfl⟩ := rng_ok hr
            have keep : ra.fz = ra ∨ True := .inr trivial
            refine op_kept I e2 fun x H1 S1 p1 l1 => ?_
            refine op_kept p1.ok e3 fun y H2 S2 p2 l2 => ?_
            have := (l2.vw p2.ok (by rw [vw_fz]; exact vb)).int
            subst this
            have hx : x = .int m := by
              exact ((l1.mono p2.grow).vw p2.ok (by rw [vw_fz]; exact va)).int
            subst hx
            rw [List.length_map, List.length_range] at big
            refine ⟨m, k, rfl, rfl, ⟨b1, b2, b3, b4, by unfold bigLine at big; omega⟩, fun p hp => ?_⟩
            exact op_end (p := .fr (.lst _)) I qq (p1.trans p2) (ext_new p2.sub hp) (new_fr p2.sub hp (.lst (rg_repL m (k - m).toNat)))
          · cases e1
        · cases e1
      · cases e1
    · cases e
  · cases e
end
end Fi
end

section
/-! FiK: statements. Own work. -/
namespace Fi
open PySem PySem.Spec L2
variable [J : HW]

def OutQ (K : PySem.W.Frag) (S H : Hp) (σ : L2.St) (E : Env) (D : Ends) : Out → Prop
  | .nx E' => ∀ σ' H' S', Post K S H σ E S' H' σ' E' → D.nx σ' H'
  | .ct E' => ∀ σ' H' S', Post K S H σ E S' H' σ' E' → D.ct σ' H'
  | .bk E' => ∀ σ' H' S', Post K S H σ E S' H' σ' E' → D.bk σ' H'
  | .rt r E' => ∀ v σ' H' S', Post K S H σ E S' H' σ' E' → ResOk K S' H' H σ' E' v r → D.rt v H'
def tS (K : PySem.W.Frag) (C : Ctx) (c : CS) : TS := fun D σ H => ∃ S E o, EnvOk K S H σ E ∧ evS C c E = some o ∧ OutQ K S H σ E D o
def tB (K : PySem.W.Frag) (C : Ctx) (c : CB) : TS := fun D σ H => ∃ S E o, EnvOk K S H σ E ∧ evB C c E = some o ∧ OutQ K S H σ E D o
theorem OutQ.from {K : PySem.W.Frag} {S H S1 H1 : Hp} {σ σ1 : L2.St} {E E1 : Env} {D : Ends} {o : Out} (q : OutQ K S H σ E D o) (p : Post K S H σ E S1 H1 σ1 E1) : OutQ K S1 H1 σ1 E1 D o := by
  cases o with
  | nx E' => exact fun σ' H' S' p' => q σ' H' S' (p.trans p')
  | ct E' => exact fun σ' H' S' p' => q σ' H' S' (p.trans p')
  | bk E' => exact fun σ' H' S' p' => q σ' H' S' (p.trans p')
  | rt r E' => exact fun v σ' H' S' p' h => q v σ' H' S' (p.trans p') (h.from p.dom)

/-- is the expression a comprehension -/
def isCmp : Expr → Bool
  | .ListComp _ _ _ _ => true
  | .SetComp _ _ _ _ => true
  | .DictComp _ _ _ _ _ => true
  | _ => false
theorem no_swap {e : Expr} {t : Option Expr} {l : Nat} {env : PySem.Env} (h : isCmp e = false) : swapsWith e t l env = pure false := by
  cases e <;> first | rfl | cases h
theorem no_swap_tup {e : Expr} {es : List Expr} {k : Nat} {p : Pos} {l : Nat} {env : PySem.Env} (h : isCmp e = false) : swapsWithSole [.Tuple es k p] e l env = pure false := by
  have q := no_swap (e := e) (t := some (.Tuple es k p)) (l := l) (env := env) h
  unfold swapsWithSole
  exact q
def isTupE : Expr → Bool
  | .Tuple _ _ _ => true
  | _ => false
theorem no_stores {e : Expr} {es : List Expr} {k : Nat} {p : Pos} {env : PySem.Env} (h : isTupE e = false) : swappedStores [.Tuple es k p] e env = pure none := by
  cases e <;> first | rfl | cases h

section
variable {X : Cx} {N : List Str} {sc W : Nms} {C : Ctx} {F : List (Str × Nat)} {n : Nat}
/-! ### small ones -/
theorem so_bnil : PSs X [] (tB X.K C .nil) := by
  refine PSs.imp pss_nil fun D σ H ⟨S, E, o, I, e, q⟩ => ?_
  unfold evB at e
  cases e
  exact q σ H S (.refl I)
theorem so_bcons {s : Stmt} {r : List Stmt} {c : CS} {cs : CB} (h : PS X s (tS X.K C c)) (hr : PSs X r (tB X.K C cs)) : PSs X (s :: r) (tB X.K C (.cons c cs)) := by
  refine PSs.imp (pss_cons h hr) fun D σ H ⟨S, E, o, I, e, q⟩ => ?_
  unfold evB at e
  split at e
  · rename_i E1 e1
    exact ⟨S, E, _, I, e1, fun σ' H' S' p => ⟨S', E1, o, p.ok, e, q.from p⟩⟩
  · rename_i o' ne e1
    cases e
    refine ⟨S, E, o, I, e1, ?_⟩
    cases o with
    | nx E' => exact absurd rfl (ne E')
    | ct E' => exact q
    | bk E' => exact q
    | rt r E' => exact q
  · cases e
theorem so_pas {pos : Pos} : PS X (.Pass pos) (tS X.K C .pas) := by
  refine PS.imp ps_pass fun D σ H ⟨S, E, o, I, e, q⟩ => ?_
  unfold evS at e
  cases e
  exact q σ H S (.refl I)
theorem so_brk {pos : Pos} : PS X (.Break pos) (tS X.K C .brk) := by
  refine PS.imp ps_break fun D σ H ⟨S, E, o, I, e, q⟩ => ?_
  unfold evS at e
  cases e
  exact q σ H S (.refl I)
theorem so_cnt {pos : Pos} : PS X (.Continue pos) (tS X.K C .cnt) := by
  refine PS.imp ps_continue fun D σ H ⟨S, E, o, I, e, q⟩ => ?_
  unfold evS at e
  cases e
  exact q σ H S (.refl I)
theorem so_ex {e : Expr} {c : CE} {pos : Pos} (hc : isCmp e = false) (h : PE X e (tE X.K C c)) : PS X (.Expr e pos) (tS X.K C (.ex c)) := by
  refine PS.imp (ps_expr h (no_swap hc)) fun D σ H ⟨S, E, o, I, e, q⟩ => ?_
  unfold evS at e
  split at e
  · rename_i r E1 e1
    cases e
    exact ⟨S, E, r, E1, I, e1, fun v H' S' p _ => q σ H' S' p⟩
  · cases e
theorem so_ret {e : Expr} {c : CE} {pos : Pos} (h : PE X e (tE X.K C c)) : PS X (.Return (some e) pos) (tS X.K C (.ret c)) := by
  refine PS.imp (ps_ret h) fun D σ H ⟨S, E, o, I, e, q⟩ => ?_
  unfold evS at e
  split at e
  · rename_i r E1 e1
    cases e
    exact ⟨S, E, r, E1, I, e1, fun v H' S' p h => q v σ H' S' p h⟩
  · cases e
theorem so_retN {pos : Pos} : PS X (.Return none pos) (tS X.K C .retN) := by
  refine PS.imp ps_retN fun D σ H ⟨S, E, o, I, e, q⟩ => ?_
  unfold evS at e
  cases e
  exact q .non σ H S (.refl I) (.sh .non)
theorem so_ite {c : Expr} {a b : List Stmt} {cc : CE} {ca cb : CB} {pos : Pos} (hc : PT X c (tT X.K C cc)) (ha : PSs X a (tB X.K C ca)) (hb : PSs X b (tB X.K C cb)) : PS X (.If c a b pos) (tS X.K C (.ite cc ca cb)) := by
  refine PS.imp (ps_if hc ha hb) fun D σ H ⟨S, E, o, I, e, q⟩ => ?_
  unfold evS at e
  split at e
  · rename_i r E1 e1
    split at e
    · rename_i t
      exact ⟨S, E, r, E1, true, I, e1, t, fun H1 S1 p1 => iteT ⟨S1, E1, o, p1.ok, e, q.from p1⟩⟩
    · rename_i t
      exact ⟨S, E, r, E1, false, I, e1, t, fun H1 S1 p1 => iteF ⟨S1, E1, o, p1.ok, e, q.from p1⟩⟩
    · cases e
  · cases e

/-! ### assignments -/
theorem asg_read {i : Nat} {c : CE} {D : Ends} {σ : L2.St} {H : Hp} (h : tS X.K C (.asg (.nm i) c) D σ H) : tAsg (tE X.K C c) (gName i) D σ H := by
  obtain ⟨S, E, o, I, e, q⟩ := h
  unfold evS at e
  split at e
  · rename_i r E1 e1
    refine ⟨S, E, r, E1, I, e1, fun v H1 S1 p1 h1 => ?_⟩
    simp only at e
    split at e
    · rename_i d
      split at e
      · rename_i hf
        cases e
        cases h1 with
        | ow ev n s o w =>
          subst ev
          exact q _ H1 S1 (p1.put_ow hf n s o w)
      · cases e
    · rename_i nr
      split at e
      · rename_i d E2 e2
        split at e
        · rename_i hf
          cases e
          obtain ⟨S2, p2, rep⟩ := tk_ok p1.ok h1 (fun d z => nr d z) e2
          exact q _ H1 S2 ((p1.trans p2).trans (put_sh p2.ok hf rep))
        · cases e
      · cases e
  · cases e
theorem so_asg (O : Ok X N sc C F n) (OW : OkW X W) {x : Str} {i : Nat} {e : Expr} {c : CE} {px pos : Pos} (hx : slot N x = some i) (hs : sto sc W x = true) (hc : isCmp e = false) (h : PE X e (tE X.K C c)) : PS X (.Assign [.Name x px] e pos) (tS X.K C (.asg (.nm i) c)) := by
  obtain ⟨h1, h2⟩ := O.loc OW hs
  exact PS.imp (ps_set (i := i) (by rw [O.eN]; exact O.nd) (by rw [O.eN]; exact slot_ok hx) h1 h (no_swap hc) h2) fun D σ H q => asg_read q
theorem so_asgT (O : Ok X N sc C F n) (OW : OkW X W) {es : List Expr} {k : Nat} {is : List Nat} {e : Expr} {c : CE} {px pos : Pos} (ht : nmSlots N sc W es = some is) (hc : isCmp e = false) (hw : swappedStores [.Tuple es k px] e X.env = pure none) (h : PE X e (tE X.K C c)) :
    PS X (.Assign [.Tuple es k px] e pos) (tS X.K C (.asg (.tp is) c)) := by
  refine PS.imp (ps_asg h (so_tp O OW ht) (no_swap_tup hc) hw rfl) fun D σ H ⟨S, E, o, I, e, q⟩ => ?_
  unfold evS at e
  split at e
  · rename_i r E1 e1
    simp only at e
    split at e
    · rename_i ds vw
      simp only [Option.map_eq_some_iff] at e
      obtain ⟨E2, e2, e⟩ := e
      cases e
      refine op_kept I e1 fun v H1 S1 p1 l1 => ?_
      have rv := vw_tup (l1.vw p1.ok (by rw [vw_fz]; exact vw))
      exact ⟨S1, E1, .tup ds, E2, p1.ok, rv, e2, fun σ' p2 _ _ => q σ' H1 S1 (p1.trans p2)⟩
    · cases e
  · cases e
/-- name op= e -/
theorem so_aug (O : Ok X N sc C F n) (OW : OkW X W) {x : Str} {i : Nat} {e : Expr} {c : CE} {o : O2} {op : Operator} {r : R2} {px pos : Pos} (hx : slot N x = some i) (hs : sto sc W x = true) (ho : OpR X (inplaceOp op) r) (pr : Prim2 X.K r (iopD o)) (h : PE X e (tE X.K C c)) :
    PS X (.AugAssign (.Name x px) op e pos) (tS X.K C (.aug i o c)) := by
  obtain ⟨h1, h2⟩ := O.loc OW hs
  refine PS.imp (ps_aug (i := i) (by rw [O.eN]; exact O.nd) (by rw [O.eN]; exact slot_ok hx) h1 h (ti := r) (fun pins s σ H x y v u Q I rx ry q => ho pins s σ H x y v u Q I rx ry q) h2) fun D σ H ⟨S, E, o', I, e, q⟩ => ?_
  unfold evS at e
  split at e
  · rename_i d g
    obtain ⟨v, ev, rv⟩ := I.sh i d g
    split at e
    · rename_i rr E1 e1
      split at e
      · rename_i d2 v2
        split at e
        · rename_i d3 h3
          split at e
          · rename_i hf
            cases e
            refine ⟨v, ev, ?_⟩
            refine op_kept I e1 fun y H1 S1 p1 l1 => ?_
            refine pr S1 H1 v y d d2 _ _ p1.sub (.inl (rv.mono p1.grow)) (l1.vw p1.ok (by rw [vw_fz]; exact v2)) h3 fun z H2 S2 ex pres => ?_
            cases pres with
            | sc rz =>
              have p2 := p1.trans (ex.post p1.ok)
              exact q _ H2 S2 (p2.trans (put_sh p2.ok hf rz))
          · cases e
        · cases e
      · cases e
    · cases e
  · cases e

/-! ### loops -/
theorem so_for (O : Ok X N sc C F n) {tg it : Expr} {body : List Stmt} {t : Tg} {ci : IT} {cb : CB} {pos : Pos} (hset : isSetD it = false) (hi : PI X tg it (tI X.K C ci)) (hg : PG X tg (gT X.K t)) (hb : PSs X body (tB X.K C cb)) : PS X (.For tg it body [] pos) (tS X.K C (.for t ci cb)) := by
  have hp : PassesOwn (model X.prog X.w) X.A X.env X.xe := by rw [O.nox]; exact PassesOwn.never
  refine PS.imp (ps_for hp O.calm hi hg hb (fold_ok hset X.env)) fun D σ H ⟨S, E, o, I, e, q⟩ => ?_
  unfold evS at e
  split at e
  · rename_i ds l E1 e1
    split at e
    · rename_i o0 e2
      cases e
      refine ⟨S, E, ds, l, E1, I, e1, fun J H1 S1 p1 ⟨G, wk, hG⟩ hlk hlu => ?_⟩
      generalize hbd : (fun d E' => match bindT t d E' with | some E2 => evB C cb E2 | none => none) = body' at e2
      refine ⟨fun i m σ' H' => m = ds.length - i ∧ i ≤ ds.length ∧ ∃ S' E'', Post X.K S1 H1 σ E1 S' H' σ' E'' ∧ forL body' (ds.drop i) E'' = some o0,
        ⟨ds.length, by simp, Nat.zero_le _, S1, E1, .refl p1.ok, e2⟩, ?_⟩
      rintro i m σ' H' ⟨rfl, hi, S', E'', pp, run⟩
      have guard : G S' H' := hG S' H' σ' E'' pp.ok pp.grow fun j b hl d hd => pp.lkd j d hd
      have fin : ∀ {σ2 : L2.St} {H2 S2 : Hp} {E3 : Env}, o0 = .nx E3 → Post X.K S1 H1 σ E1 S2 H2 σ2 E3 → D.nx σ2 H2 := fun {σ2 H2 S2 E3} ho p2 => by
        subst ho
        exact q σ2 H2 S2 ((p1.trans p2).unlock hlu)
      by_cases hlt : i < ds.length
      · right
        rw [drop_at hlt] at run
        obtain ⟨go, yl⟩ := wk.step S' H' i ds[i] pp.grow pp.ok.sub guard (List.getElem?_eq_getElem hlt)
        refine ⟨go, fun σ2 H2 => ∃ S2 E2, Post X.K S1 H1 σ E1 S2 H2 σ2 E2 ∧ forL body' (ds.drop (i + 1)) E2 = some o0, fun σ2 H2 ⟨S2, E2, p2, r2⟩ => ⟨ds.length - (i + 1), by omega, rfl, hlt, S2, E2, p2, r2⟩, fun x H2 hy => ?_⟩
        obtain ⟨S2, ex, rx⟩ := yl x H2 hy
        have p2 := pp.trans (ex.post pp.ok)
        unfold forL at run
        cases f : body' ds[i] E'' with
        | none => rw [f] at run; cases run
        | some ob =>
          rw [f] at run
          rw [← hbd] at f
          simp only at f
          split at f
          · rename_i E3 b3
            refine ⟨S2, E'', ds[i], E3, p2.ok, rx, b3, fun σ3 p3 _ _ => ?_⟩
            refine ⟨S2, E3, ob, p3.ok, f, ?_⟩
            have p13 := p2.trans p3
            cases ob with
            | nx E4 => exact fun σ4 H4 S4 p4 => ⟨S4, E4, p13.trans p4, run⟩
            | ct E4 => exact fun σ4 H4 S4 p4 => ⟨S4, E4, p13.trans p4, run⟩
            | bk E4 =>
              simp only [Option.some.injEq] at run
              exact fun σ4 H4 S4 p4 => fin run.symm (p13.trans p4)
            | rt v E4 =>
              simp only [Option.some.injEq] at run
              subst run
              exact fun u σ4 H4 S4 p4 h4 => q u σ4 H4 S4 (((p1.trans p13).trans p4).unlock hlu) (by
                have h5 := h4.from (H3 := H) fun a z => p1.dom a (p13.dom a z)
                cases h5 with
                | sh r => exact .sh r
                | pk r => exact .pk r
                | ow ev n s o w =>
                  refine .ow ev n s o fun w' => w ?_
                  obtain ⟨k, ⟨d, g⟩, ek⟩ := w'
                  refine ⟨k, ?_, ek⟩
                  cases l with
                  | none => exact ⟨d, g⟩
                  | some ib =>
                    obtain ⟨j, b⟩ := ib
                    cases b with
                    | false => exact ⟨d, g⟩
                    | true =>
                      unfold unlock at g
                      simp only at g
                      split at g
                      · rename_i d2 g2
                        by_cases hij : k = j
                        · subst hij; exact ⟨d2, .inr g2⟩
                        · rw [get_put_ne hij] at g; exact ⟨d, g⟩
                      · exact ⟨d, g⟩)
          · cases f
      · left
        have hie : i = ds.length := by omega
        subst hie
        rw [List.drop_length] at run
        unfold forL at run
        simp only [Option.some.injEq] at run
        exact ⟨wk.stop S' H' pp.grow pp.ok.sub guard, fin run.symm pp⟩
    · cases e
  · cases e
theorem so_whl (O : Ok X N sc C F n) {c : Expr} {body : List Stmt} {cc : CE} {cb : CB} {pos : Pos} (hc : PT X c (tT X.K C cc)) (hb : PSs X body (tB X.K C cb)) : PS X (.While c body [] pos) (tS X.K C (.whl cc cb)) := by
  have hp : PassesOwn (model X.prog X.w) X.A X.env X.xe := by rw [O.nox]; exact PassesOwn.never
  refine PS.imp (ps_while hp hc hb) fun D σ H ⟨S, E, o, I, e, q⟩ => ?_
  unfold evS at e
  generalize ht : (fun E' => match evE C cc E' with | some (r, E1) => (match (E1.vw r).bind Fi.D.truth with | some k => some (k, E1) | none => none) | none => none) = tst at e
  unfold whl at e
  split at e
  · rename_i hex
    have hch := hex.choose_spec
    cases e
    obtain ⟨m0, run0⟩ := hch
    generalize hex.choose = o at run0 q
    refine ⟨fun m σ' H' => ∃ S' E'', Post X.K S H σ E S' H' σ' E'' ∧ whlN tst (fun E' => evB C cb E') m E'' = some o, ⟨m0, S, E, .refl I, run0⟩, ?_⟩
    rintro m σ' H' ⟨S', E'', pp, run⟩
    cases m with
    | zero => cases run
    | succ m =>
      unfold whlN at run
      split at run
      · rename_i E1 e1
        rw [← ht] at e1
        simp only at e1
        split at e1
        · rename_i r E1' e1'
          split at e1
          · rename_i k tk
            cases e1
            refine ⟨S', E'', r, E1, true, pp.ok, e1', tk, fun H1 S1 p1 => iteT ?_⟩
            refine ⟨fun σ2 H2 => ∃ S2 E2, Post X.K S H σ E S2 H2 σ2 E2 ∧ whlN tst (fun E' => evB C cb E') m E2 = some o, fun σ2 H2 ⟨S2, E2, p2, r2⟩ => ⟨m, Nat.lt_succ_self m, S2, E2, p2, r2⟩, ?_⟩
            have p01 := pp.trans p1
            cases f : evB C cb E1 with
            | none => simp only [f] at run; cases run
            | some ob =>
              simp only [f] at run
              refine ⟨S1, E1, ob, p1.ok, f, ?_⟩
              cases ob with
              | nx E4 => exact fun σ4 H4 S4 p4 => ⟨S4, E4, p01.trans p4, run⟩
              | ct E4 => exact fun σ4 H4 S4 p4 => ⟨S4, E4, p01.trans p4, run⟩
              | bk E4 =>
                simp only [Option.some.injEq] at run
                subst run
                exact fun σ4 H4 S4 p4 => q σ4 H4 S4 (p01.trans p4)
              | rt v E4 =>
                simp only [Option.some.injEq] at run
                subst run
                exact fun u σ4 H4 S4 p4 h4 => q u σ4 H4 S4 (p01.trans p4) (h4.from p01.dom)
          · cases e1
        · cases e1
      · rename_i E1 e1
        rw [← ht] at e1
        simp only at e1
        split at e1
        · rename_i r E1' e1'
          split at e1
          · rename_i k tk
            cases e1
            simp only [Option.some.injEq] at run
            subst run
            exact ⟨S', E'', r, E1, false, pp.ok, e1', tk, fun H1 S1 p1 => iteF (q σ' H1 S1 (pp.trans p1))⟩
          · cases e1
        · cases e1
      · cases run
  · cases e
end
end Fi
end

section
/-! FiPar: a, b = x, y: new containers stay the slots' own. Own work. -/
namespace Fi
open PySem PySem.Spec L2
variable [J : HW]
/-- the places of new containers -/
def News (vs : List V) (rs : List Rs) (a : Addr) : Prop := ∃ (j : Nat) (d : D), rs[j]? = some (.ow d) ∧ vs[j]? = some (.ref a)
inductive LsF (K : PySem.W.Frag) (S H H0 : Hp) (σ : L2.St) (E : Env) : List V → List Rs → Prop
  | nil : LsF K S H H0 σ E [] []
  | cons {v : V} {r : Rs} {vs : List V} {rs : List Rs} : ResOk K S H H0 σ E v r → (∀ a d, r = .ow d → v = .ref a → ¬ News vs rs a) → LsF K S H H0 σ E vs rs → LsF K S H H0 σ E (v :: vs) (r :: rs)
def tFs (K : PySem.W.Frag) (C : Ctx) (c : CEs) : TA := fun σ H Q => ∃ S E rs E', EnvOk K S H σ E ∧ evFs C c E = some (rs, E') ∧ ∀ vs H' S', Post K S H σ E S' H' σ E' → LsF K S' H' H σ E' vs rs → Q vs H'
section
variable {K : PySem.W.Frag} {S S' S1 H H' H0 H1 : Hp} {σ σ' σ1 : L2.St} {E E' E1 E2 : Env}
theorem LsF.mono {vs : List V} {rs : List Rs} (h : LsF K S H H0 σ E vs rs) (p : Post K S H σ E S' H' σ E') : LsF K S' H' H0 σ E' vs rs := by
  induction h with
  | nil => exact .nil
  | cons a n _ ih => exact .cons (a.mono p) n ih
theorem LsF.from {vs : List V} {rs : List Rs} (h : LsF K S H H0 σ E vs rs) {H3 : Hp} (d : ∀ a, H0 a = none → H3 a = none) : LsF K S H H3 σ E vs rs := by
  induction h with
  | nil => exact .nil
  | cons a n _ ih => exact .cons (a.from d) n ih
theorem LsF.fresh {vs : List V} {rs : List Rs} (h : LsF K S H H0 σ E vs rs) {a : Addr} (n : News vs rs a) : H0 a = none := by
  induction h with
  | nil => obtain ⟨j, d, e, _⟩ := n; simp at e
  | @cons v r vs rs x _ _ ih =>
    obtain ⟨j, d, e1, e2⟩ := n
    cases j with
    | zero =>
      simp at e1 e2
      subst e1 e2
      cases x with
      | ow e n _ _ _ => cases e; exact n
    | succ j => exact ih ⟨j, d, by simpa using e1, by simpa using e2⟩
theorem LsF.len {vs : List V} {rs : List Rs} (h : LsF K S H H0 σ E vs rs) : vs.length = rs.length := by
  induction h with
  | nil => rfl
  | cons _ _ _ ih => simp [ih]
/-- outcomes to be stored -/
def NewsP (vs : List V) (ps : List PR) (a : Addr) : Prop := ∃ (j : Nat) (d : D), ps[j]? = some (.fr d) ∧ vs[j]? = some (.ref a)
inductive LsP (K : PySem.W.Frag) (S H H0 : Hp) (σ : L2.St) (E : Env) : List V → List PR → Prop
  | nil : LsP K S H H0 σ E [] []
  | sc {v : V} {d : D} {vs : List V} {ps : List PR} : Rep K S d v → LsP K S H H0 σ E vs ps → LsP K S H H0 σ E (v :: vs) (.sc d :: ps)
  | fr {a : Addr} {d : D} {vs : List V} {ps : List PR} : H0 a = none → S a = none → OwnAt K S (H a) d → ¬ Own σ E a → ¬ NewsP vs ps a → LsP K S H H0 σ E vs ps → LsP K S H H0 σ E (.ref a :: vs) (.fr d :: ps)
theorem LsP.len {vs : List V} {ps : List PR} (h : LsP K S H H0 σ E vs ps) : vs.length = ps.length := by
  induction h with
  | nil => rfl
  | sc _ _ ih => simp [ih]
  | fr _ _ _ _ _ _ ih => simp [ih]
theorem LsP.mono {vs : List V} {ps : List PR} (h : LsP K S H H0 σ E vs ps) (p : Post K S H σ E S' H' σ E') : LsP K S' H' H0 σ E' vs ps := by
  induction h with
  | nil => exact .nil
  | sc r _ ih => exact .sc (r.mono p.grow) ih
  | fr n s o w u _ ih =>
    obtain ⟨x, ex⟩ := o.some
    have e2 := p.frame _ _ w ex
    refine .fr n (p.keepS _ _ w ex s) (by rw [e2]; rw [ex] at o; exact o.mono p.grow) (fun h => ?_) u ih
    rcases p.own _ h with z | z
    · exact w z
    · rw [ex] at z; cases z
/-- other slots -/
theorem LsP.env {vs : List V} {ps : List PR} (h : LsP K S H H0 σ E vs ps) (w : ∀ a, NewsP vs ps a → Own σ1 E1 a → Own σ E a) : LsP K S H H0 σ1 E1 vs ps := by
  induction h with
  | nil => exact .nil
  | @sc v d vs ps r _ ih => exact .sc r (ih fun a ⟨j, d, e1, e2⟩ => w a ⟨j + 1, d, by simpa using e1, by simpa using e2⟩)
  | @fr a d vs ps n s o n2 u _ ih => exact .fr n s o (fun h => n2 (w _ ⟨0, d, rfl, rfl⟩ h)) u (ih fun b ⟨j, d, e1, e2⟩ => w b ⟨j + 1, d, by simpa using e1, by simpa using e2⟩)
theorem tkf_ok : ∀ (rs : List Rs) {vs : List V} {S : Hp} {E : Env} {ps : List PR} {E2 : Env}, EnvOk K S H σ E → LsF K S H H0 σ E vs rs → E.tkf rs = some (ps, E2) → ∃ S2, Post K S H σ E S2 H σ E2 ∧ LsP K S2 H H0 σ E2 vs ps ∧ ∀ a, NewsP vs ps a → News vs rs a
  | [], _, S, E, _, _, I, l, e => by
    cases l
    unfold Env.tkf at e
    cases e
    exact ⟨S, .refl I, .nil, fun a ⟨j, d, e1, _⟩ => by simp at e1⟩
  | r :: rs, _, S, E, ps, E2, I, l, e => by
    cases l with
    | @cons v _ vs _ x nw l =>
      by_cases hr : ∃ d, r = .ow d
      · obtain ⟨d, rfl⟩ := hr
        unfold Env.tkf at e
        cases y : E.tkf rs with
        | none => rw [y] at e; cases e
        | some q =>
          obtain ⟨ps', E3⟩ := q
          rw [y] at e; cases e
          obtain ⟨S2, p, l2, hn⟩ := tkf_ok rs I l y
          have x2 := x.mono p
          cases x2 with
          | @ow _ a e1 n s o w =>
            subst e1
            refine ⟨S2, p, .fr n s o w (fun h => nw a d rfl rfl (hn a h)) l2, fun b ⟨j, d', e1, e2⟩ => ?_⟩
            cases j with
            | zero => exact ⟨0, d, rfl, e2⟩
            | succ j =>
              obtain ⟨j2, d2, z1, z2⟩ := hn b ⟨j, d', by simpa using e1, by simpa using e2⟩
              exact ⟨j2 + 1, d2, by simpa using z1, by simpa using z2⟩
      · have e' : (match E.tk r with
            | some (d, E1) => (match E1.tkf rs with
              | some (ps, E2) => some (PR.sc d :: ps, E2)
              | none => none)
            | none => none) = some (ps, E2) := by
          cases r with
          | ow d => exact absurd ⟨d, rfl⟩ hr
          | sh d => exact e
          | pk i => exact e
        cases z : E.tk r with
        | none => rw [z] at e'; cases e'
        | some q =>
          obtain ⟨d, E1⟩ := q
          rw [z] at e'
          simp only at e'
          obtain ⟨S1, p1, rep⟩ := tk_ok I x (fun d h => hr ⟨d, h⟩) z
          cases y : E1.tkf rs with
          | none => rw [y] at e'; cases e'
          | some q =>
            obtain ⟨ps', E3⟩ := q
            rw [y] at e'; cases e'
            obtain ⟨S2, p2, l2, hn⟩ := tkf_ok rs p1.ok (l.mono p1) y
            refine ⟨S2, p1.trans p2, .sc (rep.mono p2.grow) l2, fun b ⟨j, d', e1, e2⟩ => ?_⟩
            cases j with
            | zero => simp at e1
            | succ j =>
              obtain ⟨j2, d2, z1, z2⟩ := hn b ⟨j, d', by simpa using e1, by simpa using e2⟩
              exact ⟨j2 + 1, d2, by simpa using z1, by simpa using z2⟩
theorem own_put_ow {i : Nat} {d : D} {a b : Addr} (I : EnvOk K S H σ E) (hi : i < E.sl.length) (h : Own (σ.set i (some (.ref a))) (E.put i (.ow d)) b) : b = a ∨ Own σ E b := by
  obtain ⟨j, hj, e⟩ := h
  by_cases hji : j = i
  · subst hji
    rw [List.getElem?_set_self (by rw [I.len]; exact hi)] at e; cases e
    exact .inl rfl
  · rw [List.getElem?_set_ne (Ne.symm hji)] at e
    exact .inr ⟨j, (isOw_put_ne hji).mp hj, e⟩
theorem putp_ok : ∀ (is : List Nat) {σ1 : L2.St} {E1 E2 : Env} {vs : List V} {ps : List PR} {Q : L2.St → Hp → Prop}, Post K S H σ E S1 H1 σ1 E1 → LsP K S1 H1 H σ1 E1 vs ps → putp E1 is ps = some E2 →
    (∀ σ', Post K S H σ E S1 H1 σ' E2 → Q σ' H1) → gNs is vs σ1 H1 Q
  | [], σ1, E1, E2, _, ps, Q, p, l, e, q => by
    cases l with
    | nil => unfold putp at e; cases e; exact ⟨rfl, q σ1 p⟩
    | sc _ _ => unfold putp at e; cases e
    | fr _ _ _ _ _ _ => unfold putp at e; cases e
  | i :: is, σ1, E1, E2, _, ps, Q, p, l, e, q => by
    cases l with
    | nil => unfold putp at e; cases e
    | @sc v d vs ps r l =>
      unfold putp at e
      split at e
      · rename_i hf
        have hi := (free_of hf).2.2
        refine ⟨v, vs, rfl, ?_⟩
        exact putp_ok is (p.trans (put_sh p.ok hf r)) (l.env fun a _ w => (own_put (fun d => ⟨by simp, by simp⟩) hi p.ok w).1) e q
      · cases e
    | @fr a d vs ps n s o w u l =>
      unfold putp at e
      split at e
      · rename_i hf
        have hi := (free_of hf).2.2
        refine ⟨.ref a, vs, rfl, ?_⟩
        refine putp_ok is (p.put_ow hf n s o w) (l.env fun b nb z => ?_) e q
        rcases own_put_ow p.ok hi z with rfl | z
        · exact absurd nb u
        · exact z
      · cases e
end
section
variable {X : Cx} {N : List Str} {sc W : Nms} {C : Ctx} {F : List (Str × Nat)} {n : Nat}
theorem so_nilF : PA X [] (tFs X.K C .nil) := by
  refine PA.imp pa_nil fun σ H Q ⟨S, E, rs, E', I, e, q⟩ => ?_
  unfold evFs at e
  cases e
  exact q [] H S (.refl I) .nil
theorem so_consF {e : Expr} {es : List Expr} {c : CE} {cs : CEs} (hs : isStar e = false) (h : PE X e (tE X.K C c)) (hr : PA X es (tFs X.K C cs)) : PA X (e :: es) (tFs X.K C (.cons c cs)) := by
  refine PA.imp (pa_cons h hr (star_cons hs)) fun σ H Q ⟨S, E, rs, E', I, e, q⟩ => ?_
  unfold evFs at e
  split at e
  · rename_i x E1 e1
    split at e
    · rename_i xs E2 e2
      cases e
      refine ⟨S, E, x, E1, I, e1, fun v H1 S1 p1 r1 => ⟨S1, E1, xs, E', p1.ok, e2, fun vs H2 S2 p2 l2 => ?_⟩⟩
      refine q _ H2 S2 (p1.trans p2) (.cons (r1.mono p2) (fun a d hx hv nw => ?_) (l2.from p1.dom))
      subst hx
      cases r1 with
      | ow e n s o w =>
        rw [hv] at e
        cases e
        obtain ⟨y, ey⟩ := o.some
        rw [l2.fresh nw] at ey
        cases ey
    · cases e
  · cases e
theorem par_read {is : List Nat} {cs : CEs} {D : Ends} {σ : L2.St} {H : Hp} (h : tS X.K C (.par is cs) D σ H) : tFs X.K C cs σ H fun vs H1 => gNs is vs σ H1 D.nx := by
  obtain ⟨S, E, o, I, e, q⟩ := h
  unfold evS at e
  split at e
  · rename_i rs E1 e1
    split at e
    · rename_i ps E2 e2
      simp only [Option.map_eq_some_iff] at e
      obtain ⟨E3, e3, e⟩ := e
      cases e
      refine ⟨S, E, rs, E1, I, e1, fun vs H1 S1 p1 l1 => ?_⟩
      obtain ⟨S2, p2, l2, _⟩ := tkf_ok rs p1.ok l1 e2
      exact putp_ok is (p1.trans p2) l2 e3 fun σ' p3 => q σ' H1 S2 p3
    · cases e
  · cases e
theorem putp_len : ∀ {is : List Nat} {ps : List PR} {E E' : Env}, putp E is ps = some E' → ps.length = is.length
  | [], [], _, _, _ => rfl
  | [], _ :: _, _, _, e => by unfold putp at e; cases e
  | _ :: _, [], _, _, e => by unfold putp at e; cases e
  | i :: is, .sc d :: ps, _, _, e => by
    unfold putp at e
    split at e
    · simp [putp_len e]
    · cases e
  | i :: is, .fr d :: ps, _, _, e => by
    unfold putp at e
    split at e
    · simp [putp_len e]
    · cases e
/-- the same, the tuple being made -/
theorem so_parT (O : Ok X N sc C F n) (OW : OkW X W) {es vs : List Expr} {k k2 : Nat} {is : List Nat} {cs : CEs} {px pos pt2 : Pos} (ht : nmSlots N sc W es = some is) (hl : is.length ≤ 100) (hw : swappedStores [.Tuple es k px] (.Tuple vs k2 pt2) X.env = pure none) (h : PA X vs (tFs X.K C cs)) :
    PS X (.Assign [.Tuple es k px] (.Tuple vs k2 pt2) pos) (tS X.K C (.par is cs)) := by
  obtain ⟨h1, h2, h3⟩ := so_nms O OW ht
  refine PS.imp (ps_asg (pe_tupF h) (pg_tup O.calm h1 h2 h3) (no_swap_tup rfl) hw rfl) fun D σ H ⟨S, E, o, I, e, q⟩ => ?_
  unfold evS at e
  split at e
  · rename_i rs E1 e1
    split at e
    · rename_i ps E2 e2
      simp only [Option.map_eq_some_iff] at e
      obtain ⟨E3, e3, e⟩ := e
      cases e
      refine ⟨S, E, rs, E1, I, e1, fun xs H1 S1 p1 l1 => ?_⟩
      obtain ⟨S2, p2, l2, _⟩ := tkf_ok rs p1.ok l1 e2
      have hlen : xs.length = is.length := by rw [l2.len, putp_len e3]
      refine ⟨by rw [hlen]; exact Nat.le_trans hl (by rw [sizeLine_eq]; omega), fun p o hp ho => ?_⟩
      have p12 := p1.trans p2
      have hx : Ext S2 H1 S2 (upd H1 p (.frz o (.tup xs))) := ⟨.refl _, fun b x e => by
        have e' := p12.ok.sub b x e
        have : b ≠ p := by rintro rfl; rw [hp] at e'; cases e'
        rw [upd_ne this]; exact e', same_upd hp, fun a o e n => n⟩
      have p3 := hx.post p12.ok
      refine ⟨p, xs, rfl, .inl (.inr ⟨o, upd_same⟩), hlen, ?_⟩
      exact putp_ok is (p12.trans p3) (l2.mono p3) e3 fun σ' p4 => q σ' _ S2 p4
    · cases e
  · cases e
end
end Fi
end

section
/-! FiNd: dicts with keys that are tuples of any depth: stores. Own work. -/
namespace Fi
open PySem PySem.Spec L2 PyProof.Rows
variable [J : HW]
section
variable (K : PySem.W.Frag) (H : Hp)
mutual
/-- the value v is the key k -/
inductive NK : NestedKey → V → Prop
  | non : NK .none .non
  | num (i : Int) : NK (.num i) (.int i)
  | text (x : Str) : NK (.text x) (.str x)
  | tup {a : Addr} {vs : List V} {ks : List NestedKey} : SqT K H a vs → NKs ks vs → NK (.tup ks) (.ref a)
inductive NKs : List NestedKey → List V → Prop
  | nil : NKs [] []
  | cons {k : NestedKey} {v : V} {ks : List NestedKey} {vs : List V} : NK k v → NKs ks vs → NKs (k :: ks) (v :: vs)
end
end
section
variable {K : PySem.W.Frag} {S H : Hp}
mutual
theorem nk_rep (e : Same S H) : ∀ {d : D} {v : V} {k : NestedKey}, Rep K S d v → D.nk d = some k → NK K H k v
  | .non, _, _, h, hk => by unfold D.nk at hk; cases hk; cases h; exact .non
  | .int i, _, _, h, hk => by unfold D.nk at hk; cases hk; cases h; exact .num i
  | .str x, _, _, h, hk => by unfold D.nk at hk; cases hk; cases h; exact .text _
  | .tup xs, _, _, h, hk => by
    unfold D.nk at hk
    rw [Option.map_eq_some_iff] at hk
    obtain ⟨ks, hks, rfl⟩ := hk
    cases h with
    | tup hs r => exact .tup (sqT_mono e hs.sq) (nks_rep e r hks)
  | .bl _, _, _, _, hk => by unfold D.nk at hk; cases hk
  | .lst _, _, _, _, hk => by unfold D.nk at hk; cases hk
  | .dct _ _, _, _, _, hk => by unfold D.nk at hk; cases hk
  | .set _, _, _, _, hk => by unfold D.nk at hk; cases hk
  | .scr _, _, _, _, hk => by unfold D.nk at hk; cases hk
  | .ty _, _, _, _, hk => by unfold D.nk at hk; cases hk
theorem nks_rep (e : Same S H) : ∀ {ds : List D} {vs : List V} {ks : List NestedKey}, RepL K S ds vs → D.nks ds = some ks → NKs K H ks vs
  | [], _, _, h, hk => by unfold D.nks at hk; cases hk; cases h; exact .nil
  | d :: ds, _, _, h, hk => by
    unfold D.nks at hk
    split at hk
    · rename_i a b ha hb
      cases hk
      cases h with
      | cons h r => exact .cons (nk_rep e h ha) (nks_rep e r hb)
    · cases hk
end
mutual
theorem nk_nkD : ∀ k : NestedKey, D.nk (nkD k) = some k
  | .none => by unfold nkD D.nk; rfl
  | .num i => by unfold nkD D.nk; rfl
  | .text x => by unfold nkD D.nk; rfl
  | .tup ks => by unfold nkD D.nk; rw [nks_nkD ks]; rfl
theorem nks_nkD : ∀ ks : List NestedKey, D.nks (nkDs ks) = some ks
  | [] => by unfold nkDs D.nks; rfl
  | k :: ks => by unfold nkDs D.nks; rw [nk_nkD k, nks_nkD ks]
end
mutual
/-- data of a key, back again -/
theorem nkD_nk : ∀ {d : D} {k : NestedKey}, D.nk d = some k → nkD k = d
  | .non, _, h => by unfold D.nk at h; cases h; unfold nkD; rfl
  | .int i, _, h => by unfold D.nk at h; cases h; unfold nkD; rfl
  | .str x, _, h => by unfold D.nk at h; cases h; unfold nkD; rfl
  | .tup xs, _, h => by
    unfold D.nk at h
    rw [Option.map_eq_some_iff] at h
    obtain ⟨ks, hks, rfl⟩ := h
    unfold nkD
    rw [nkDs_nks hks]
  | .bl _, _, h => by unfold D.nk at h; cases h
  | .lst _, _, h => by unfold D.nk at h; cases h
  | .dct _ _, _, h => by unfold D.nk at h; cases h
  | .set _, _, h => by unfold D.nk at h; cases h
  | .scr _, _, h => by unfold D.nk at h; cases h
  | .ty _, _, h => by unfold D.nk at h; cases h
theorem nkDs_nks : ∀ {ds : List D} {ks : List NestedKey}, D.nks ds = some ks → nkDs ks = ds
  | [], _, h => by unfold D.nks at h; cases h; unfold nkDs; rfl
  | d :: ds, _, h => by
    unfold D.nks at h
    split at h
    · rename_i a b ha hb
      cases h
      unfold nkDs
      rw [nkD_nk ha, nkDs_nks hb]
    · cases h
end
end
section
variable {X : Cx} {pins : List (Addr × Obj)} {σ : L2.St} {H : Hp} {s : Shared}
mutual
theorem NK.is (I : Inv X pins σ H s) : ∀ {k : NestedKey} {v : V} {u : Value}, NK X.K H k v → RelV v u → NestedIs s.heap k u
  | .none, _, _, h, r => by cases h; cases r; exact .none
  | .num i, _, _, h, r => by cases h; obtain ⟨t, rfl⟩ := r; exact .int i t
  | .text x, _, _, h, r => by cases h; obtain ⟨t, rfl⟩ := r; exact .text x t
  | .tup ks, _, _, h, r => by
    cases h with
    | tup hs hk =>
      cases r
      obtain ⟨its, rv, ⟨o, ho, hc, n, hd⟩, _⟩ := I.tuple hs
      exact .tup ho hc hd (by simpa using NKs.is I hk rv)
theorem NKs.is (I : Inv X pins σ H s) : ∀ {ks : List NestedKey} {vs : List V} {us : List Value}, NKs X.K H ks vs → Vals vs us → NestedAll s.heap ks us
  | [], _, _, h, r => by cases h; cases r; exact .nil
  | k :: ks, _, _, h, r => by
    cases h with
    | cons h1 h2 => cases r with
      | cons r1 r2 => exact .cons (NK.is I h1 r1) (NKs.is I h2 r2)
end
/-- such a dict stands at its own place -/
theorem ndict_addr {P : Program} {w : World} {h : Heap} {a b : Addr} {hs : NestedKey → Int} {xs : List (NestedKey × Addr × Value)} (ok : ObjOk P w H h a (NDict hs b xs)) : b = a := by
  obtain ⟨φ, ⟨o, ho⟩, st⟩ := ok
  by_cases e : b = a
  · exact e
  exfalso
  obtain ⟨_, _, _, _, o', es, ep, hg, _, hd, _⟩ := st h (h.update b fun _ => { cls := .none, data := .fields #[] }) φ fun o q => (Heap.get?_update_other _ _ (fun z => e z)).trans q
  obtain ⟨_, _, _, _, o2, es2, ep2, hg2, _⟩ := φ
  rw [Heap.get?_update_self _ hg2 rfl] at hg
  cases hg
  cases hd
/-- what stands there, as the kind's rules say it -/
theorem ndict_of {a b : Addr} {xs : List (NestedKey × Addr × Value)} (I : Inv X pins σ H s) (ha : H a = some (NDict (fun k => k.hash X.w) b xs)) (hk : ∀ x ∈ xs, NK X.K H x.1 (.ref x.2.1)) :
    s.heap.DictOfH (nestedKind X.prog X.w) a xs ∧ xs.length ≤ sizeLine ∧ (a == sysModules) = false := by
  have ok := I.hok a _ ha
  have e := ndict_addr ok
  subst e
  obtain ⟨⟨h1, h2, h3, h4, o, es, ep, h5, h6, h7, h8⟩, _⟩ := ok
  exact ⟨⟨o, es, ep, h5, h6, h7, h8, fun x hx => ⟨NK.is I (hk x hx) rfl, h4 x hx⟩, h3⟩, h1, h2⟩
theorem ndict_ok {P : Program} {w : World} {H' : Hp} {h : Heap} {a : Addr} {xs : List (NestedKey × Addr × Value)} (hm : h.DictOfH (nestedKind P w) a xs) (hl : xs.length ≤ sizeLine) (hs : (a == sysModules) = false) : ObjOk P w H' h a (NDict (fun k => k.hash w) a xs) := by
  obtain ⟨o, es, ep, h5, h6, h7, h8, h9, h3⟩ := hm
  refine ⟨⟨hl, hs, h3, fun x hx => (h9 x hx).2, o, es, ep, h5, h6, h7, h8⟩, ⟨o, h5⟩, fun h1 h2 f k => ?_⟩
  obtain ⟨g1, g2, g3, g4, o', es', ep', g5, g6⟩ := f
  exact ⟨g1, g2, g3, g4, o', es', ep', k _ g5, g6⟩
theorem storedH_len {K : Type} [DecidableEq K] (xs : List (K × Addr × Value)) (k : K) (a : Addr) (v : Value) : (storedH xs k a v).length ≤ xs.length + 1 := by
  unfold storedH; split <;> simp
/-- d[k] = v, k a tuple of any depth -/
def rSetN (K : PySem.W.Frag) (hs : NestedKey → Int) : TSet := fun o i v H Q => ∃ (a c : Addr) (ks : List NestedKey) (xs : List (NestedKey × Addr × Value)), o = .ref a ∧ i = .ref c ∧ NK K H (.tup ks) (.ref c) ∧ NestedKey.depthAll ks ≤ 7 ∧ xs.length < sizeLine ∧
  ((H a = some (.dK []) ∧ xs = []) ∨ ((∃ b, H a = some (NDict hs b xs)) ∧ ∀ x ∈ xs, NK K H x.1 (.ref x.2.1))) ∧ ∀ u, RelV v u → Q (upd H a (NDict hs a (storedH xs (.tup ks) c u)))
theorem set_nest (hu : X.A.units + 65 < cLine) (hw : J.hs = fun k => k.hash X.w) : PSet X (rSetN X.K J.hs) := by
  intro pins s σ H o i v ov iv u Q I ro ri rv h
  rw [hw] at h
  obtain ⟨a, c, ks, xs, rfl, rfl, hk, hd, hl, hx, q⟩ := h
  cases ro
  cases ri
  have hki : (nestedKind X.prog X.w).is s.heap (.tup ks) c := ⟨NK.is I hk rfl, by unfold NestedKey.depth; omega⟩
  have hroom : (nestedKind X.prog X.w).room X.A.in1 := by
    show X.A.in1.units + 8 < cLine
    rw [Around.in1_units]; omega
  have hm : s.heap.DictOfH (nestedKind X.prog X.w) a xs ∧ (a == sysModules) = false ∧ L2.Mut (H a) := by
    rcases hx with ⟨hx, rfl⟩ | ⟨⟨b, hx⟩, hxs⟩
    · obtain ⟨_, h2, vs, kv, o, es, ep, h5, h6, h7, h8⟩ := I.hok a _ hx
      cases kv
      have h9 : es.toList = [] := by
        have := h8.2.1
        generalize es.toList = l at this
        cases this; rfl
      exact ⟨⟨o, es, ep, h5, h6, h7, by rw [h9]; rfl, by simp, by simp⟩, h2, by rw [hx]; trivial⟩
    · obtain ⟨h1, h2, h3⟩ := ndict_of I hx hxs
      exact ⟨h1, h3, by rw [hx]; trivial⟩
  obtain ⟨hm, hsm, mu⟩ := hm
  refine wpAny_setItem_heap hroom hki hm (fun h' hm' hs' => ?_) (by omega)
  refine ⟨_, I.write (x := a) (e := a) mu (.inl rfl) (fun b ob hb e => (hs'.2 b hb).trans e) ?_ (ndict_ok hm' ?_ hsm), q u rv⟩
  · obtain ⟨o, es, ep, h5, _⟩ := hm'
    exact ⟨o, h5⟩
  · have := storedH_len xs (.tup ks) c u
    omega
/-- what a store makes of the entries -/
theorem put_repT {K : PySem.W.Frag} {S : Hp} {kvs : List (DKey × D)} {es : List (NestedKey × Addr × Value)} {ks : List NestedKey} {c : Addr} {d : D} {v : V} {u : Value} (r : RepT K S kvs es) (hk : Rep K S (DKey.t ks).d (.ref c)) (hd : Rep K S d v) (rv : RelV v u) :
    RepT K S (kput (.t ks) d kvs) (storedH es (.tup ks) c u) := by
  have any : ∀ (kvs : List (DKey × D)) (es : List (NestedKey × Addr × Value)), RepT K S kvs es → (kvs.any fun kv => decide (kv.1 = .t ks)) = (atKey es (.tup ks)).isSome := by
    intro kvs
    induction kvs with
    | nil => intro es r; cases r; rfl
    | cons x kvs ih =>
      intro es r
      cases r with
      | @cons ks' c' d' v' u' _ vs hk' hu' hd' r =>
        have := ih vs r
        by_cases e : ks' = ks
        · subst e; simp [atKey]
        · simp only [List.any_cons, DKey.t.injEq, e, decide_false, Bool.false_or, this]
          simp [atKey, List.find?_cons, e]
  have map : ∀ (kvs : List (DKey × D)) (es : List (NestedKey × Addr × Value)), RepT K S kvs es → RepT K S (kvs.map (fun kv => if kv.1 = .t ks then (kv.1, d) else kv)) (es.map (putAt (.tup ks) u)) := by
    intro kvs
    induction kvs with
    | nil => intro es r; cases r; exact .nil
    | cons x kvs ih =>
      intro es r
      cases r with
      | @cons ks' c' d' v' u' _ vs hk' hu' hd' r =>
        simp only [List.map_cons]
        by_cases e : ks' = ks
        · subst e
          simp only [if_true, putAt]
          exact .cons hk' rv hd (ih vs r)
        · simp only [DKey.t.injEq, e, if_false, putAt, NestedKey.tup.injEq]
          exact .cons hk' hu' hd' (ih vs r)
  have app : ∀ (kvs : List (DKey × D)) (es : List (NestedKey × Addr × Value)), RepT K S kvs es → RepT K S (kvs ++ [(.t ks, d)]) (es ++ [(.tup ks, c, u)]) := by
    intro kvs
    induction kvs with
    | nil => intro es r; cases r; exact .cons hk rv hd .nil
    | cons x kvs ih => intro es r; cases r with | cons a b e r => exact .cons a b e (ih _ r)
  unfold kput storedH
  rw [any kvs es r]
  split
  · exact map kvs es r
  · exact app kvs es r
theorem nk_key (ks : List NestedKey) : D.nk (DKey.t ks).d = some (.tup ks) := by show D.nk (.tup _) = _; unfold D.nk; rw [nks_nkD]; rfl
theorem repT_len {K : PySem.W.Frag} {S : Hp} {kvs : List (DKey × D)} {es : List (NestedKey × Addr × Value)} (r : RepT K S kvs es) : kvs.length = es.length := by
  induction kvs generalizing es with
  | nil => cases r; rfl
  | cons x kvs ih => cases r with | cons _ _ _ r => simp [ih r]
theorem repT_keys {K : PySem.W.Frag} {S H : Hp} (e : Same S H) {kvs : List (DKey × D)} {es : List (NestedKey × Addr × Value)} (r : RepT K S kvs es) : ∀ x ∈ es, NK K H x.1 (.ref x.2.1) := by
  induction kvs generalizing es with
  | nil => cases r; intro x h; simp at h
  | cons y kvs ih =>
    cases r with
    | cons hk _ _ r =>
      intro x h
      rcases List.mem_cons.mp h with rfl | h
      · exact nk_rep e hk (by show D.nk (.tup _) = _; unfold D.nk; rw [nks_nkD]; rfl)
      · exact ih r x h
theorem key_t {K : PySem.W.Frag} {S H : Hp} {d : D} {v : V} {ks : List NestedKey} (h : Vw K S H d v) (e : d.key = some (.t ks)) : ∃ c, v = .ref c ∧ Rep K S (DKey.t ks).d (.ref c) ∧ NestedKey.depthAll ks ≤ 7 := by
  cases d <;> simp only [D.key] at e <;> try (cases e; done)
  rename_i xs
  rw [Option.bind_eq_some_iff] at e
  obtain ⟨ks', hk, e⟩ := e
  split at e
  · rename_i hd
    cases e
    have r := vw_tup h
    have e2 : (DKey.t ks).d = .tup xs := by show D.tup (nkDs ks) = _; rw [nkDs_nks hk]
    cases r with
    | tup a b => exact ⟨_, rfl, by rw [e2]; exact .tup a b, hd⟩
  · cases e
end
end Fi
end

section
set_option maxRecDepth 100000
/-! FiDct: dict(pairs), of a list or a tuple of pairs. Own work. -/
namespace Fi
open PySem PySem.Spec PyProof.Rows L2
variable [J : HW]
section
variable {X : Cx} {pins : List (Addr × Obj)} {σ : L2.St} {H : Hp} {s : Shared}
theorem plT_plain {a : Addr} {vs : List V} (I : Inv X pins σ H s) (h : PlT X.K H a vs) : ∃ its : List Value, Vals vs its ∧ PlainSeq "tuple" s.heap a its.toArray ∧ vs.length ≤ sizeLine := by
  rcases h with ⟨o, h, hd⟩ | ⟨o, its, n, h1, h2, h3, h4, h5, h6⟩
  · obtain ⟨ho, len, its, rv, o', ho', hc, n, hdat⟩ := I.hok a _ h
    rw [ho] at ho'; cases ho'
    exact ⟨its, rv, ⟨o, n, ho, hc, hd, hdat⟩, len⟩
  · have e := h6.length
    simp only [Array.length_toList] at e
    exact ⟨its.toList, h6, ⟨o, n, I.kIn a o h1, h2, h3, by simpa using h4⟩, by omega⟩
/-- the pairs that stand at ps, keys whole numbers or texts -/
theorem raw_k (I : Inv X pins σ H s) : ∀ {ps : List Addr} {kvs : List (Key × V)}, Paired (fun p kv => SqT X.K H p [kV kv.1, kv.2]) ps kvs →
    ∃ (prs : List (Value × Value)) (kws : List (Key × Value)), KV kvs kws ∧ prs.length = ps.length ∧ kws.length = ps.length ∧
      ∀ (j : Nat) (k v : Value), prs[j]? = some (k, v) → (∃ b, ps[j]? = some b ∧ PairAt s.heap b k v) ∧ ∃ q, kws[j]? = some (q, v) ∧ keyIs q k = true
  | _, _, .nil => ⟨[], [], .nil, rfl, rfl, fun j k v e => by simp at e⟩
  | _, _, .cons (a := p) (b := kv) h t => by
    obtain ⟨prs, kws, r, h1, h2, hp⟩ := raw_k I t
    obtain ⟨its, rv, ht, _⟩ := I.tuple h
    obtain ⟨u, y, ei, ru, ry⟩ := vals2 rv
    subst ei
    refine ⟨(u, y) :: prs, (kv.1, y) :: kws, .cons ⟨rfl, ry⟩ r, by simp [h1], by simp [h2], fun j k v e => ?_⟩
    cases j with
    | zero =>
      have e' : (u, y) = (k, v) := Option.some.inj e
      cases e'
      exact ⟨⟨p, rfl, .inl ht⟩, kv.1, rfl, kV_is (P := X.prog) (w := X.w) ru⟩
    | succ j =>
      obtain ⟨⟨b, e1, e2⟩, q, e3, e4⟩ := hp j k v (by simpa using e)
      exact ⟨⟨b, by simpa using e1, e2⟩, q, by simpa using e3, e4⟩
/-- the same, keys tuples -/
theorem raw_t (I : Inv X pins σ H s) : ∀ {ps : List Addr} {nvs : List (NestedKey × Addr × V)}, Paired (fun p x => SqT X.K H p [.ref x.2.1, x.2.2]) ps nvs →
    ∃ (prs : List (Value × Value)) (us : List (NestedKey × Addr × Value)), Paired (fun x u => u.1 = x.1 ∧ u.2.1 = x.2.1 ∧ RelV x.2.2 u.2.2) nvs us ∧ prs.length = ps.length ∧ us.length = ps.length ∧
      ∀ (j : Nat) (k v : Value), prs[j]? = some (k, v) → (∃ b, ps[j]? = some b ∧ PairAt s.heap b k v) ∧ ∃ q c, us[j]? = some (q, c, v) ∧ k = .ref c
  | _, _, .nil => ⟨[], [], .nil, rfl, rfl, fun j k v e => by simp at e⟩
  | _, _, .cons (a := p) (b := x) h t => by
    obtain ⟨prs, us, r, h1, h2, hp⟩ := raw_t I t
    obtain ⟨its, rv, ht, _⟩ := I.tuple h
    obtain ⟨u, y, ei, ru, ry⟩ := vals2 rv
    subst ei
    cases ru
    refine ⟨(Value.ref x.2.1, y) :: prs, (x.1, x.2.1, y) :: us, .cons ⟨rfl, rfl, ry⟩ r, by simp [h1], by simp [h2], fun j k v e => ?_⟩
    cases j with
    | zero =>
      have e' : (Value.ref x.2.1, y) = (k, v) := Option.some.inj e
      cases e'
      exact ⟨⟨p, rfl, .inl ht⟩, x.1, x.2.1, rfl, rfl⟩
    | succ j =>
      obtain ⟨⟨b, e1, e2⟩, q, c, e3, e4⟩ := hp j k v (by simpa using e)
      exact ⟨⟨b, by simpa using e1, e2⟩, q, c, by simpa using e3, e4⟩
theorem storedAllH_len {K : Type} [DecidableEq K] (ps : List (K × Addr × Value)) : ∀ xs : List (K × Addr × Value), (storedAllH xs ps).length ≤ xs.length + ps.length := by
  induction ps with
  | nil => intro xs; exact Nat.le_refl _
  | cons p ps ih =>
    intro xs
    have h1 := ih (storedH xs p.1 p.2.1 p.2.2)
    have h2 := storedH_len xs p.1 p.2.1 p.2.2
    have e : storedAllH xs (p :: ps) = storedAllH (storedH xs p.1 p.2.1 p.2.2) ps := rfl
    rw [e, List.length_cons]; omega
/-- dict(pairs) -/
def rDict (K : PySem.W.Frag) (hs : NestedKey → Int) : List V → Hp → VK → Prop := fun vs H Q => ∃ (a : Addr) (ps : List Addr), vs = [.ref a] ∧ (SqL K H a (ps.map V.ref) ∨ PlT K H a (ps.map V.ref)) ∧
  ((∃ kvs : List (Key × V), Paired (fun p kv => SqT K H p [kV kv.1, kv.2]) ps kvs ∧ ∀ p, H p = none → Q (.ref p) (upd H p (.dK (mergeK [] kvs)))) ∨
   (∃ nvs : List (NestedKey × Addr × V), Paired (fun p x => SqT K H p [.ref x.2.1, x.2.2]) ps nvs ∧ (∀ x ∈ nvs, NK K H x.1 (.ref x.2.1) ∧ x.1.depth ≤ 8) ∧
     ∀ us, Paired (fun x u => u.1 = x.1 ∧ u.2.1 = x.2.1 ∧ RelV x.2.2 u.2.2) nvs us → ∀ p, H p = none → Q (.ref p) (upd H p (NDict hs p (storedAllH [] us)))))
theorem paired_mem {α β : Type} {F : α → β → Prop} {xs : List α} {ys : List β} (h : Paired F xs ys) : ∀ y ∈ ys, ∃ x ∈ xs, F x y := by
  induction h with
  | nil => intro y hy; simp at hy
  | cons a r ih =>
    intro y hy
    rcases List.mem_cons.mp hy with rfl | hy
    · exact ⟨_, List.mem_cons_self, a⟩
    · obtain ⟨x, hx, f⟩ := ih y hy
      exact ⟨x, List.mem_cons_of_mem _ hx, f⟩
theorem paired_len {α β : Type} {F : α → β → Prop} {xs : List α} {ys : List β} (h : Paired F xs ys) : xs.length = ys.length := by
  induction h with
  | nil => rfl
  | cons a r ih => simp [ih]
theorem cr_dict (hc : X.calm = true) (hu : X.A.units + 65 < cLine) (hw : J.hs = fun k => k.hash X.w) : CallR X (.type "dict") (rDict X.K J.hs) := by
  intro pins s σ H vs us Q I r h
  obtain ⟨a, ps, rfl, hq, h⟩ := h
  rw [Vals.ref1 r]
  have hA := I.ok.hd hc
  -- what is walked
  have src : ∃ (T : String) (its : List Value), Vals (ps.map V.ref) its ∧ ps.length ≤ sizeLine ∧ ∀ (Ts : Nat → Addr) (prs : List (Value × Value)), PairItems s.heap its.toArray Ts prs →
      ∃ fp OK, PairArg X.prog X.w T a fp [] prs.length (PairRel prs) OK ∧ OK s.heap := by
    rcases hq with hq | hq
    · obtain ⟨its, rv, pl, hz⟩ := I.list hq
      exact ⟨"list", its, rv, by simpa using hz, fun Ts prs hp => ⟨_, _, PairArg.list a its.toArray Ts prs, pl, hp⟩⟩
    · obtain ⟨its, rv, pl, hz⟩ := plT_plain I hq
      exact ⟨"tuple", its, rv, by simpa using hz, fun Ts prs hp => ⟨_, _, PairArg.tuple a its.toArray Ts prs, pl, hp⟩⟩
  obtain ⟨T, its, rv, hz, mk⟩ := src
  have ei := refs_at rv
  subst ei
  have items : ∀ prs : List (Value × Value), prs.length = ps.length → (∀ (j : Nat) (k v : Value), prs[j]? = some (k, v) → ∃ b, ps[j]? = some b ∧ PairAt s.heap b k v) → PairItems s.heap (ps.map Value.ref).toArray (fun j => ps.getD j 0) prs := by
    intro prs hl hp
    refine ⟨by simp [hl], fun j k v e => ?_⟩
    obtain ⟨b, e1, e2⟩ := hp j k v e
    have e3 : ps.getD j 0 = b := by rw [List.getD_eq_getElem?_getD, e1]; rfl
    exact ⟨by simp [e1], by show PairAt s.heap (ps.getD j 0) k v; rw [e3]; exact e2⟩
  have hm : (s.heap.objs.size == sysModules) = false := beq_eq_false_iff_ne.mpr (Nat.ne_of_gt I.big)
  rcases h with ⟨kvs, hp, q⟩ | ⟨nvs, hp, hk, q⟩
  · obtain ⟨prs, kws, rel, h1, h2, hpr⟩ := raw_k I hp
    obtain ⟨fp, OK, P, ok⟩ := mk _ prs (items prs h1 fun j k v e => (hpr j k v e).1)
    refine PySem.call_dict_pairs (knd := mixKind X.prog X.w) (kvs := kws) P hA ok ⟨by omega, fun i k v e => (hpr i k v e).2⟩ (by omega) fun h' tk hd' keep => ?_
    have hlen : (mergeK [] kvs).length ≤ sizeLine := by
      refine Nat.le_trans (length_mergeK kvs []) ?_
      rw [List.length_nil, Nat.zero_add, rel.length, h2]
      exact hz
    exact ⟨.ref s.heap.objs.size, upd H s.heap.objs.size (.dK (mergeK [] kvs)), I.laid (t' := tk) (fun b o e => keep b o (by simp) e) (Nat.le_refl _) (show ObjOk X.prog X.w _ _ _ (.dK (mergeK [] kvs)) from ⟨hlen, hm, merged [] kws, KV.merge rel .nil, hd'⟩), rfl, q _ (I.hok.fresh (Nat.le_refl _))⟩
  · obtain ⟨prs, us, rel, h1, h2, hpr⟩ := raw_t I hp
    obtain ⟨fp, OK, P, ok⟩ := mk _ prs (items prs h1 fun j k v e => (hpr j k v e).1)
    have hroom : (nestedKind X.prog X.w).room X.A.in1.in1 := by
      show X.A.in1.in1.units + 8 < cLine
      rw [Around.in1_units, Around.in1_units]; omega
    have his : ∀ x ∈ us, (nestedKind X.prog X.w).is s.heap x.1 x.2.1 := by
      intro x hx
      obtain ⟨y, hy, e1, e2, _⟩ := paired_mem rel x hx
      obtain ⟨n1, n2⟩ := hk y hy
      rw [e1, e2]
      exact ⟨NK.is I n1 rfl, n2⟩
    refine PySem.call_dict_pairsH (knd := nestedKind X.prog X.w) (ps := us) P hA hroom ok ⟨by omega, fun i k v e => ?_⟩ (fun h' keep x hx => ?_) (by omega) fun h' tk hd' keep => ?_
    · obtain ⟨q, c, e1, e2⟩ := (hpr i k v e).2
      exact ⟨q, c, e1, e2⟩
    · exact nestedKind_stays.stays (fun b o _ _ e _ => keep b o (Nat.ne_of_lt (Heap.lt_size e)) (by simp) e) (his x hx)
    · have hlen : (storedAllH [] us).length ≤ sizeLine := by
        have := storedAllH_len us []
        rw [List.length_nil] at this
        omega
      have ok2 : ObjOk X.prog X.w (upd H s.heap.objs.size (NDict J.hs s.heap.objs.size (storedAllH [] us))) h' s.heap.objs.size (NDict J.hs s.heap.objs.size (storedAllH [] us)) := by
        rw [hw]; exact ndict_ok hd' hlen hm
      exact ⟨.ref s.heap.objs.size, _, I.laid (t' := tk) (fun b o e => keep b o (by simp) e) (Nat.le_refl _) ok2, rfl, q us rel _ (I.hok.fresh (Nat.le_refl _))⟩
end
section
variable {K : PySem.W.Frag} {S : Hp}
/-- pairs of data: keys whole numbers or texts -/
theorem pairs_k : ∀ {xs : List D} {vs : List V} {ps : List (DKey × D)}, RepL K S xs vs → dPairs xs = some ps → ps.all (fun p => p.1.ok false) = true →
    ∃ (as : List Addr) (kvs : List (Key × V)), vs = as.map V.ref ∧ Paired (fun p kv => SqT K S p [kV kv.1, kv.2]) as kvs ∧ ∀ acc es0, RepK K S acc es0 → RepK K S (ps.foldl (fun acc p => kput p.1 p.2 acc) acc) (mergeK es0 kvs) := by
  intro xs
  induction xs with
  | nil => intro vs ps r h _; cases r; unfold dPairs at h; cases h; exact ⟨[], [], rfl, .nil, fun _ _ r => r⟩
  | cons x xs ih =>
    intro vs ps r h ha
    unfold dPairs at h
    split at h
    · rename_i heq; cases heq
    · rename_i k v r' heq
      cases heq
      split at h
      · rename_i dk ps' hk hps
        cases h
        simp only [List.all_cons, Bool.and_eq_true] at ha
        cases r with
        | cons hx r =>
          obtain ⟨as, kvs, rfl, pr, f⟩ := ih r hps ha.2
          cases hx with
          | @tup a vs2 _ hs rl =>
            cases rl with
            | cons r1 rl => cases rl with
              | @cons _ v2 _ _ r2 rl =>
                cases rl
                obtain ⟨j, hj, rfl⟩ := key_rep (H := S) (.inl r1) hk ha.1
                exact ⟨a :: as, (j, v2) :: kvs, rfl, .cons hs.sq pr, fun acc es0 r0 => f _ _ (put_rep r0 hj r2)⟩
      · cases h
    · cases h
/-- pairs of data: keys tuples -/
theorem pairs_t : ∀ {xs : List D} {vs : List V} {ps : List (DKey × D)}, RepL K S xs vs → dPairs xs = some ps → ps.all (fun p => p.1.ok true) = true →
    ∃ (as : List Addr) (nvs : List (NestedKey × Addr × V)), vs = as.map V.ref ∧ Paired (fun p x => SqT K S p [.ref x.2.1, x.2.2]) as nvs ∧ (∀ x ∈ nvs, ∃ ks, x.1 = .tup ks ∧ Rep K S (DKey.t ks).d (.ref x.2.1) ∧ NestedKey.depthAll ks ≤ 7) ∧
      ∀ us, Paired (fun x u => u.1 = x.1 ∧ u.2.1 = x.2.1 ∧ RelV x.2.2 u.2.2) nvs us → ∀ acc es0, RepT K S acc es0 → RepT K S (ps.foldl (fun acc p => kput p.1 p.2 acc) acc) (storedAllH es0 us) := by
  intro xs
  induction xs with
  | nil => intro vs ps r h _; cases r; unfold dPairs at h; cases h; exact ⟨[], [], rfl, .nil, by simp, fun us pr _ _ r => by cases pr; exact r⟩
  | cons x xs ih =>
    intro vs ps r h ha
    unfold dPairs at h
    split at h
    · rename_i heq; cases heq
    · rename_i k v r' heq
      cases heq
      split at h
      · rename_i dk ps' hk hps
        cases h
        simp only [List.all_cons, Bool.and_eq_true] at ha
        cases r with
        | cons hx r =>
          obtain ⟨as, nvs, rfl, pr, hn, f⟩ := ih r hps ha.2
          cases hx with
          | @tup a vs2 _ hs rl =>
            cases rl with
            | cons r1 rl => cases rl with
              | @cons _ v2 _ _ r2 rl =>
                cases rl
                cases dk with
                | i n => exact absurd ha.1 (by simp [DKey.ok])
                | s x => exact absurd ha.1 (by simp [DKey.ok])
                | t ks =>
                  obtain ⟨c, rfl, rc, hd⟩ := key_t (H := S) (.inl r1) hk
                  refine ⟨a :: as, (.tup ks, c, v2) :: nvs, rfl, .cons hs.sq pr, fun y hy => ?_, fun us pu acc es0 r0 => ?_⟩
                  · rcases List.mem_cons.mp hy with rfl | hy
                    · exact ⟨ks, rfl, rc, hd⟩
                    · exact hn y hy
                  · cases pu with
                    | @cons _ u _ us e pu =>
                      obtain ⟨e1, e2, e3⟩ := e
                      obtain ⟨u1, u2, u3⟩ := u
                      cases e1; cases e2
                      exact f us pu _ _ (put_repT r0 rc r2 e3)
      · cases h
    · cases h
theorem paired_imp {α β : Type} {F G : α → β → Prop} {xs : List α} {ys : List β} (h : Paired F xs ys) (f : ∀ x y, F x y → G x y) : Paired G xs ys := by
  induction h with
  | nil => exact .nil
  | cons a r ih => exact .cons (f _ _ a) ih
theorem prim_dict : PrimC K (rDict K J.hs) dictB := by
  intro S H vs ds p Q e hv hp q
  have go : ∀ (a : Addr) (xs : List D) (us : List V), RepL K S xs us → dictC xs = some p → (SqL K H a us ∨ PlT K H a us) → rDict K J.hs [.ref a] H Q := by
    intro a xs us r h hs
    unfold dictC at h
    rw [Option.bind_eq_some_iff] at h
    obtain ⟨ps, hps, h⟩ := h
    split at h
    · rename_i c
      cases h
      obtain ⟨as, kvs, rfl, pr, f⟩ := pairs_k r hps c
      exact ⟨a, as, rfl, hs, .inl ⟨kvs, paired_imp pr fun _ _ z => sqT_mono e z, fun p hp => q _ _ S (ext_new e hp) (new_fr e hp (.dK (f [] [] .nil)))⟩⟩
    · split at h
      · rename_i c
        cases h
        obtain ⟨as, nvs, rfl, pr, hn, f⟩ := pairs_t r hps c
        refine ⟨a, as, rfl, hs, .inr ⟨nvs, paired_imp pr fun _ _ z => sqT_mono e z, fun x hx => ?_, fun us pu p hp => q _ _ S (ext_new e hp) (new_fr e hp (.dT (f us pu [] [] .nil)))⟩⟩
        obtain ⟨ks, e1, e2, e3⟩ := hn x hx
        rw [e1]
        exact ⟨nk_rep e e2 (nk_key ks), by unfold NestedKey.depth; omega⟩
      · cases h
  unfold dictB at hp
  split at hp
  · obtain ⟨v, rfl, h⟩ := vwl1 hv
    obtain ⟨a, us, rfl, ha, r⟩ := h.lst e
    exact go a _ us r hp (.inl (.of ha))
  · obtain ⟨v, rfl, h⟩ := vwl1 hv
    have t := vw_tup h
    cases t with
    | tup hs r => exact go _ _ _ r hp (.inr (hs.mono e))
  · cases hp
end
end Fi
end

section
/-! FiL: stores in a row, stores to places. Own work. -/
namespace Fi
open PySem PySem.Spec L2
variable [J : HW]
theorem swp2 {x y : Str} {px py pt pt2 : Pos} {kt k2 : Nat} {a b : Expr} {env : PySem.Env} (hk : env.scope.kind = .function) (kx : env.kindOf x = some .local) (ky : env.kindOf y = some .local) (hl : py.line = px.line) (ne : x ≠ y)
    (nf : (foldedForSure 8 a && foldedForSure 8 b) = false) (nc : (constantsAlone 8 a && constantsAlone 8 b) = false) (sa : isStar a = false) (sb : isStar b = false) :
    swappedStores [.Tuple [.Name x px, .Name y py] kt pt] (.Tuple [a, b] k2 pt2) env = pure (some [x, y]) := by
  have hb : env.blockKind = .function := by unfold Env.blockKind; rw [hk]; rfl
  have e1 : (y == x) = false := by simpa using Ne.symm ne
  unfold swappedStores
  simp [hb, kx, ky, hl, ne, nf, nc, Expr.pos, List.eraseDups, List.eraseDupsBy, List.eraseDupsBy.loop]
  rw [if_neg (by
    rintro (h | h)
    · split at h
      · cases sa
      · cases h
    · split at h
      · cases sb
      · cases h)]
  rw [e1]; rfl
theorem swp3 {x y z : Str} {px py pz pt pt2 : Pos} {kt k2 : Nat} {a b c : Expr} {env : PySem.Env} (hk : env.scope.kind = .function) (kx : env.kindOf x = some .local) (ky : env.kindOf y = some .local) (kz : env.kindOf z = some .local) (hl : py.line = px.line) (hl2 : pz.line = px.line) (ne : x ≠ y) (ne2 : x ≠ z) (ne3 : y ≠ z)
    (nf : (foldedForSure 8 a && (foldedForSure 8 b && foldedForSure 8 c)) = false) (nc : (constantsAlone 8 a && (constantsAlone 8 b && constantsAlone 8 c)) = false) (sa : isStar a = false) (sb : isStar b = false) (sc : isStar c = false) :
    swappedStores [.Tuple [.Name x px, .Name y py, .Name z pz] kt pt] (.Tuple [a, b, c] k2 pt2) env = pure (some [x, y, z]) := by
  have hb : env.blockKind = .function := by unfold Env.blockKind; rw [hk]; rfl
  have e1 : (y == x) = false := by simpa using Ne.symm ne
  have e2 : (z == x) = false := by simpa using Ne.symm ne2
  have e3 : (z == y) = false := by simpa using Ne.symm ne3
  unfold swappedStores
  simp [hb, kx, ky, kz, hl, hl2, ne, ne2, ne3, nf, nc, Expr.pos, List.eraseDups, List.eraseDupsBy, List.eraseDupsBy.loop]
  rw [if_neg (by
    rintro (h | h | h)
    · split at h
      · cases sa
      · cases h
    · split at h
      · cases sb
      · cases h
    · split at h
      · cases sc
      · cases h)]
  simp [e1, e2, e3]
  try rfl
theorem no_stores4 {es vs : List Expr} {k k2 : Nat} {p p2 : Pos} {env : PySem.Env} (h : (es.length == 2 || es.length == 3) = false) : swappedStores [.Tuple es k p] (.Tuple vs k2 p2) env = pure none := by
  unfold swappedStores
  simp [h]
/-- one of the names is no plain local name: the tuple is made -/
theorem no_storesN {es vs : List Expr} {k k2 : Nat} {p p2 : Pos} {env : PySem.Env} {x : Str} {px : Pos} (hm : Expr.Name x px ∈ es) (h : env.kindOf x ≠ some .local) : swappedStores [.Tuple es k p] (.Tuple vs k2 p2) env = pure none := by
  have h' : (env.kindOf x == some .local) = false := by simpa using h
  unfold swappedStores
  simp only []
  split
  · rfl
  · split
    · rfl
    · rw [if_pos]
      · rw [Bool.or_eq_true]
        left
        rw [bne_iff_ne]
        exact Nat.ne_of_lt (List.length_filterMap_lt_length_iff_exists.mpr ⟨_, hm, by simp [h']⟩)
section
variable {X : Cx} {N : List Str} {sc W : Nms} {C : Ctx} {F : List (Str × Nat)} {n : Nat}
theorem repL2 {K : PySem.W.Frag} {S : Hp} {d e : Fi.D} {vs : List V} (h : RepL K S [d, e] vs) : ∃ v u, vs = [v, u] ∧ Rep K S d v ∧ Rep K S e u := by
  cases h with | cons a r => cases r with | cons b r => cases r; exact ⟨_, _, rfl, a, b⟩
theorem so_par2 (O : Ok X N sc C F n) {x y : Str} {i j : Nat} {a b : Expr} {cs : CEs} {px py pt pt2 pos : Pos} {kt k2 : Nat} (hx : slot N x = some i) (hy : slot N y = some j) (lx : sc.lookup x = some .local) (ly : sc.lookup y = some .local) (hij : i ≠ j) (hl : py.line = px.line)
    (nf : (foldedForSure 8 a && foldedForSure 8 b) = false) (nc : (constantsAlone 8 a && constantsAlone 8 b) = false) (sa : isStar a = false) (sb : isStar b = false) (ha : PA X [a, b] (tFs X.K C cs)) :
    PS X (.Assign [.Tuple [.Name x px, .Name y py] kt pt] (.Tuple [a, b] k2 pt2) pos) (tS X.K C (.par [i, j] cs)) := by
  have kx : X.env.kindOf x = some .local := by show X.env.scope.names.lookup x = _; rw [O.names]; exact lx
  have ky : X.env.kindOf y = some .local := by show X.env.scope.names.lookup y = _; rw [O.names]; exact ly
  have hNx : X.N[i]? = some x := by rw [O.eN]; exact slot_ok hx
  have hNy : X.N[j]? = some y := by rw [O.eN]; exact slot_ok hy
  have ne : x ≠ y := by
    rintro rfl
    exact hij (nodup_ix (by rw [O.eN]; exact O.nd) hNx hNy)
  refine PS.imp (ps_par O.calm (by rw [O.eN]; exact O.nd) hNx hNy hij kx ky ha (swp2 O.kind kx ky hl ne nf nc sa sb)) fun D σ H h => ?_
  obtain ⟨S, E, rs, E1, I, e1, q⟩ := par_read h
  refine ⟨S, E, rs, E1, I, e1, fun vs H1 S1 p1 l1 => ?_⟩
  obtain ⟨v, r, rfl, u, r2, rfl, rfl, q⟩ := q vs H1 S1 p1 l1
  exact ⟨v, u, rfl, q⟩
theorem so_par3 (O : Ok X N sc C F n) {x y z : Str} {i j k : Nat} {a b c : Expr} {cs : CEs} {px py pz pt pt2 pos : Pos} {kt k2 : Nat} (hx : slot N x = some i) (hy : slot N y = some j) (hz : slot N z = some k) (lx : sc.lookup x = some .local) (ly : sc.lookup y = some .local) (lz : sc.lookup z = some .local) (hij : i ≠ j) (hik : i ≠ k) (hjk : j ≠ k) (hl : py.line = px.line) (hl2 : pz.line = px.line)
    (nf : (foldedForSure 8 a && (foldedForSure 8 b && foldedForSure 8 c)) = false) (nc : (constantsAlone 8 a && (constantsAlone 8 b && constantsAlone 8 c)) = false) (sa : isStar a = false) (sb : isStar b = false) (sc' : isStar c = false) (ha : PA X [a, b, c] (tFs X.K C cs)) :
    PS X (.Assign [.Tuple [.Name x px, .Name y py, .Name z pz] kt pt] (.Tuple [a, b, c] k2 pt2) pos) (tS X.K C (.par [i, j, k] cs)) := by
  have kx : X.env.kindOf x = some .local := by show X.env.scope.names.lookup x = _; rw [O.names]; exact lx
  have ky : X.env.kindOf y = some .local := by show X.env.scope.names.lookup y = _; rw [O.names]; exact ly
  have kz : X.env.kindOf z = some .local := by show X.env.scope.names.lookup z = _; rw [O.names]; exact lz
  have nd : X.N.Nodup := by rw [O.eN]; exact O.nd
  have hNx : X.N[i]? = some x := by rw [O.eN]; exact slot_ok hx
  have hNy : X.N[j]? = some y := by rw [O.eN]; exact slot_ok hy
  have hNz : X.N[k]? = some z := by rw [O.eN]; exact slot_ok hz
  have ne : x ≠ y := by rintro rfl; exact hij (nodup_ix nd hNx hNy)
  have ne2 : x ≠ z := by rintro rfl; exact hik (nodup_ix nd hNx hNz)
  have ne3 : y ≠ z := by rintro rfl; exact hjk (nodup_ix nd hNy hNz)
  refine PS.imp (ps_par3 O.calm nd hNx hNy hNz hij hik hjk kx ky kz ha (swp3 O.kind kx ky kz hl hl2 ne ne2 ne3 nf nc sa sb sc')) fun D σ H h => ?_
  obtain ⟨S, E, rs, E1, I, e1, q⟩ := par_read h
  refine ⟨S, E, rs, E1, I, e1, fun vs H1 S1 p1 l1 => ?_⟩
  obtain ⟨v, r, rfl, u, r2, rfl, w, r3, rfl, rfl, q⟩ := q vs H1 S1 p1 l1
  exact ⟨v, u, w, rfl, q⟩

/-! ### stores to places -/
theorem assign_sub {o i : Expr} {pos : Pos} {env : PySem.Env} (h : isSlice i = false) : ∀ v, assign (.Subscript o i pos) env v = (do
      let ov ← holding [v] (eval o env)
      let iv ← holding [v, ov] (eval i env)
      standAt pos
      holding [v, ov, iv] (setItem ov iv v)
      release [v, ov, iv] []) := by
  intro v
  cases i <;> first | rfl | cases h
theorem aug_store {i : Expr} (h : isSlice i = false) : ∀ ov iv new, augStore i ov iv new = (do holding [new, ov, iv] (setItem ov iv new); release [new, ov, iv] []; pure .next) := by
  intro ov iv new
  cases i <;> first | rfl | cases h
theorem own_dK {S H : Hp} {σ : L2.St} {E : Env} {i : Nat} {kvs : List (DKey × Fi.D)} (I : EnvOk X.K S H σ E) (g : E.get i = .ow (.dct false kvs)) : ∃ a es, σ[i]? = some (some (.ref a)) ∧ H a = some (.dK es) ∧ RepK X.K S kvs es := by
  obtain ⟨a, e, _, o⟩ := I.ow i _ (.inl g)
  generalize z : H a = w at o
  cases o with
  | dK r => exact ⟨a, _, e, z, r⟩
theorem own_dT {S H : Hp} {σ : L2.St} {E : Env} {i : Nat} {kvs : List (DKey × Fi.D)} (I : EnvOk X.K S H σ E) (g : E.get i = .ow (.dct true kvs)) : ∃ a b es, σ[i]? = some (some (.ref a)) ∧ H a = some (NDict J.hs b es) ∧ RepT X.K S kvs es := by
  obtain ⟨a, e, _, o⟩ := I.ow i _ (.inl g)
  generalize z : H a = w at o
  cases o with
  | dT r => exact ⟨a, _, _, e, z, r⟩
theorem ok_t {k : DKey} (h : k.ok true = true) : ∃ ks, k = .t ks := by
  cases k with
  | i n => cases h
  | s x => cases h
  | t ks => exact ⟨ks, rfl⟩
theorem so_setIx (O : Ok X N sc C F n) (hu : X.A.units + 1 < cLine) {x : Str} {i : Nat} {k e : Expr} {ck ce : CE} {px ps pos : Pos} (hx : slot N x = some i) (hv : vis sc x = true) (hd : (x == ("__debug__" : Str)) = false) (hc : (x == ("__classdict__" : Str)) = false) (hs : isSlice k = false) (hcm : isCmp e = false)
    (hk : PE X k (tE X.K C ck)) (he : PE X e (tE X.K C ce)) : PS X (.Assign [.Subscript (.Name x px) k ps] e pos) (tS X.K C (.setIx i ck ce)) := by
  have hN : X.N[i]? = some x := by rw [O.eN]; exact slot_ok hx
  have pv := pe_var (X := X) (pos := px) hN (O.vis hv) hd hc
  have sw : swapsWithSole [.Subscript (.Name x px) k ps] e pos.line X.env = pure false := by
    have q := no_swap (e := e) (t := some (.Subscript (.Name x px) k ps)) (l := pos.line) (env := X.env) hcm
    unfold swapsWithSole
    exact q
  refine PS.imp (PS.or (PS.or (ps_dput hu pv hk he (no_swap hcm)) (ps_asg he (pg_sub pv hk set_list (assign_sub hs)) sw rfl rfl)) (ps_asg he (pg_sub pv hk (set_nest (by have := O.room.un; omega) O.hw) (assign_sub hs)) sw rfl rfl)) fun D σ H ⟨S, E, o, I, e, q⟩ => ?_
  unfold evS at e
  split at e
  · rename_i r E1 e1
    split at e
    · rename_i d E2 e2
      split at e
      · rename_i c0 g0
        split at e
        · rename_i rk E3 e3
          split at e
          · rename_i c dk g vk
            simp only [Option.map_eq_some_iff] at e
            obtain ⟨c2, hc2, e⟩ := e
            cases e
            unfold setD at hc2
            split at hc2
            · rename_i xs z
              simp only [Option.map_eq_some_iff] at hc2
              obtain ⟨j, hj, rfl⟩ := hc2
              left; right
              refine op_kept I e1 fun v H1 S1 p1 l1 => ?_
              obtain ⟨S2, p2, rv⟩ := l1.tk p1.ok (by rw [tk_fz]; exact e2)
              have p12 := p1.trans p2
              obtain ⟨a, ea, _, _⟩ := p12.ok.ow i c0 (.inl g0)
              refine ⟨_, ea, ?_⟩
              refine op_kept p12.ok e3 fun kv H3 S3 p3 l3 => ?_
              have p13 := p12.trans p3
              obtain ⟨a', us, ea', ha, ru⟩ := own_lst p13.ok g
              rw [ea] at ea'; cases ea'
              have hk := (l3.vw p13.ok (by rw [vw_fz]; exact vk)).int
              refine ⟨a, us, z, j, rfl, hk, ha, by rw [← ru.length]; exact hj, ?_⟩
              exact q _ _ S3 (p13.trans (upd_ow p13.ok g ea (.lst (ru.set j (rv.mono p3.grow)))))
            · rename_i bb kvs
              simp only [Option.bind_eq_some_iff] at hc2
              obtain ⟨key, hkey, hc2⟩ := hc2
              split at hc2
              · rename_i hok
                simp only [Bool.and_eq_true, decide_eq_true_eq] at hok
                cases hc2
                cases bb with
                | false =>
                  left; left
                  refine op_kept I e1 fun v H1 S1 p1 l1 => ?_
                  obtain ⟨S2, p2, rv⟩ := l1.tk p1.ok (by rw [tk_fz]; exact e2)
                  have p12 := p1.trans p2
                  obtain ⟨a, ea, _, _⟩ := p12.ok.ow i c0 (.inl g0)
                  refine ⟨_, ea, ?_⟩
                  refine op_kept p12.ok e3 fun kv H3 S3 p3 l3 => ?_
                  have p13 := p12.trans p3
                  obtain ⟨a', es, ea', ha, ru⟩ := own_dK p13.ok g
                  rw [ea] at ea'; cases ea'
                  obtain ⟨j, hj, rfl⟩ := key_rep (l3.vw p13.ok (by rw [vw_fz]; exact vk)) hkey hok.1
                  refine ⟨a, _, rfl, DPut.k ha (by rw [← repK_len ru, ← big_eq]; exact hok.2), ?_⟩
                  exact q _ _ S3 (p13.trans (upd_ow p13.ok g ea (.dK (put_rep ru hj (rv.mono p3.grow)))))
                | true =>
                  right
                  refine op_kept I e1 fun v H1 S1 p1 l1 => ?_
                  obtain ⟨S2, p2, rv⟩ := l1.tk p1.ok (by rw [tk_fz]; exact e2)
                  have p12 := p1.trans p2
                  obtain ⟨a, ea, _, _⟩ := p12.ok.ow i c0 (.inl g0)
                  refine ⟨_, ea, ?_⟩
                  refine op_kept p12.ok e3 fun kv H3 S3 p3 l3 => ?_
                  have p13 := p12.trans p3
                  obtain ⟨a', b', es, ea', ha, ru⟩ := own_dT p13.ok g
                  rw [ea] at ea'; cases ea'
                  obtain ⟨ks, rfl⟩ := ok_t hok.1
                  obtain ⟨cc, rfl, rk, hdp⟩ := key_t (l3.vw p13.ok (by rw [vw_fz]; exact vk)) hkey
                  refine ⟨a, cc, ks, es, rfl, rfl, nk_rep p13.ok.sub rk (nk_key ks), hdp, by rw [← repT_len ru, ← big_eq]; exact hok.2, .inr ⟨⟨b', ha⟩, repT_keys p13.ok.sub ru⟩, fun u ru2 => ?_⟩
                  exact q _ _ S3 (p13.trans (upd_ow p13.ok g ea (.dT (put_repT ru rk (rv.mono p3.grow) ru2))))
              · split at hc2
                · rename_i hok
                  simp only [Bool.and_eq_true, List.isEmpty_iff] at hok
                  obtain ⟨hok, rfl⟩ := hok
                  cases hc2
                  right
                  refine op_kept I e1 fun v H1 S1 p1 l1 => ?_
                  obtain ⟨S2, p2, rv⟩ := l1.tk p1.ok (by rw [tk_fz]; exact e2)
                  have p12 := p1.trans p2
                  obtain ⟨a, ea, _, _⟩ := p12.ok.ow i c0 (.inl g0)
                  refine ⟨_, ea, ?_⟩
                  refine op_kept p12.ok e3 fun kv H3 S3 p3 l3 => ?_
                  have p13 := p12.trans p3
                  obtain ⟨ks, rfl⟩ := ok_t hok
                  obtain ⟨cc, rfl, rk, hdp⟩ := key_t (l3.vw p13.ok (by rw [vw_fz]; exact vk)) hkey
                  have hz : (H3 a = some (.dK []) ∨ ∃ b', H3 a = some (NDict J.hs b' [])) := by
                    cases bb with
                    | false =>
                      obtain ⟨a', es, ea', ha, ru⟩ := own_dK p13.ok g
                      rw [ea] at ea'; cases ea'
                      cases ru; exact .inl ha
                    | true =>
                      obtain ⟨a', b', es, ea', ha, ru⟩ := own_dT p13.ok g
                      rw [ea] at ea'; cases ea'
                      cases ru; exact .inr ⟨b', ha⟩
                  refine ⟨a, cc, ks, [], rfl, rfl, nk_rep p13.ok.sub rk (nk_key ks), hdp, by rw [← big_eq]; decide, ?_, fun u ru2 => ?_⟩
                  · rcases hz with hz | hz
                    · exact .inl ⟨hz, rfl⟩
                    · exact .inr ⟨hz, by simp⟩
                  · exact q _ _ S3 (p13.trans (upd_ow p13.ok g ea (.dT (put_repT (kvs := []) .nil rk (rv.mono p3.grow) ru2))))
                · cases hc2
            · cases hc2
          · cases e
        · cases e
      · cases e
    · cases e
  · cases e
/-- d[k] op= e, d a dict -/
theorem so_augIx (O : Ok X N sc C F n) (hu : X.A.units + 1 < cLine) {x : Str} {i : Nat} {k e : Expr} {ck ce : CE} {o : O2} {op : Operator} {r : R2} {px ps pos : Pos} (hx : slot N x = some i) (hv : vis sc x = true) (hd : (x == ("__debug__" : Str)) = false) (hc : (x == ("__classdict__" : Str)) = false) (hs : isSlice k = false)
    (ho : InOp X op r) (pr : Prim2 X.K r (inopD o)) (hk : PE X k (tE X.K C ck)) (he : PE X e (tE X.K C ce)) : PS X (.AugAssign (.Subscript (.Name x px) k ps) op e pos) (tS X.K C (.augIx i ck o ce)) := by
  have hN : X.N[i]? = some x := by rw [O.eN]; exact slot_ok hx
  have pv := pe_var (X := X) (pos := px) hN (O.vis hv) hd hc
  refine PS.imp (ps_daug hu pv hk he ho (aug_store hs)) fun D σ H ⟨S, E, oo, I, e, q⟩ => ?_
  unfold evS at e
  split at e
  · rename_i c0 g0
    split at e
    · rename_i rk E1 e1
      split at e
      · rename_i kvs key g hkey
        simp only [Option.bind_eq_some_iff] at hkey
        obtain ⟨dk, vk, hkey⟩ := hkey
        split at e
        · rename_i hok
          split at e
          · rename_i old hold
            split at e
            · rename_i rr E2 e2
              split at e
              · rename_i kvs2 d2 g2 v2
                split at e
                · rename_i d3 h3
                  split at e
                  · rename_i hz
                    cases e
                    obtain ⟨a, ea, _, _⟩ := I.ow i c0 (.inl g0)
                    refine ⟨_, ea, ?_⟩
                    refine op_kept I e1 fun kv H1 S1 p1 l1 => ?_
                    have vwk := l1.vw p1.ok (by rw [vw_fz]; exact vk)
                    obtain ⟨a', es, ea', ha, ru⟩ := own_dK p1.ok g
                    rw [ea] at ea'; cases ea'
                    obtain ⟨j, hj, rfl⟩ := key_rep vwk hkey hok
                    obtain ⟨g1, _⟩ := get_rep ru hj
                    obtain ⟨v, hv, rv⟩ := g1 old hold
                    refine ⟨a, v, rfl, by rw [← hv]; exact DGet.k ha, ?_⟩
                    refine op_kept p1.ok e2 fun y H2 S2 p2 l2 => ?_
                    have p12 := p1.trans p2
                    refine pr S2 H2 v y old d2 _ _ p12.sub (.inl (rv.mono p2.grow)) (l2.vw p12.ok (by rw [vw_fz]; exact v2)) h3 fun z H3 S3 ex pres => ?_
                    have p3 := p12.trans (ex.post p12.ok)
                    cases pres with
                    | sc rz =>
                      obtain ⟨a', es2, ea', ha2, ru2⟩ := own_dK p3.ok g2
                      rw [ea] at ea'; cases ea'
                      refine ⟨_, DPut.k ha2 (by rw [← repK_len ru2, ← big_eq]; exact hz), ?_⟩
                      exact q _ _ S3 (p3.trans (upd_ow p3.ok g2 ea (.dK (put_rep ru2 hj rz))))
                  · cases e
                · cases e
              · cases e
            · cases e
          · cases e
        · cases e
      · cases e
    · cases e
  · cases e
end
end Fi
end

section
/-! FiM: comparisons, membership, displays of dicts. Own work. -/
namespace Fi
open PySem PySem.Spec L2
variable [J : HW]
section
variable {X : Cx} {N : List Str} {sc W : Nms} {C : Ctx} {F : List (Str × Nat)} {n : Nat}
theorem Ok.u65 (O : Ok X N sc C F n) : X.A.units + 65 < cLine := by have := O.room.un; omega
theorem Ok.u66 (O : Ok X N sc C F n) : X.A.units + 66 < cLine := by have := O.room.un; omega
theorem Ok.u64 (O : Ok X N sc C F n) : X.A.units + 64 < cLine := by have := O.room.un; omega
theorem Ok.u1 (O : Ok X N sc C F n) : X.A.units + 1 < cLine := by have := O.room.un; omega

/-! ### displays of dicts -/
def kvOf : DKey → V
  | .i m => .int m
  | .s x => .str (strOf x)
  | .t _ => .non
def dspT (K : PySem.W.Frag) (C : Ctx) : List DKey → CEs → List (TE × TE)
  | k :: ks, .cons c cs => (tC (kvOf k), tE K C c) :: dspT K C ks cs
  | _, _ => []
theorem dsp_read {K : PySem.W.Frag} : ∀ {ks : List DKey} {cs : CEs} {S H : Hp} {σ : L2.St} {E E' : Env} {rs : List Rs} {Q : List (V × V) → Hp → Prop}, ks.length = cs.len → EnvOk K S H σ E → evEs C cs E = some (rs, E') →
    (∀ vs H' S', Post K S H σ E S' H' σ E' → LsOk K S' σ vs rs → Q ((ks.map kvOf).zip vs) H') → tPairs (dspT K C ks cs) σ H Q := by
  intro ks
  induction ks with
  | nil =>
    intro cs S H σ E E' rs Q hl I e q
    cases cs with
    | nil => unfold evEs at e; cases e; exact q [] H S (.refl I) .nil
    | cons c cs => cases hl
  | cons k ks ih =>
    intro cs S H σ E E' rs Q hl I e q
    cases cs with
    | nil => cases hl
    | cons c cs =>
      unfold evEs at e
      split at e
      · rename_i x E1 e1
        split at e
        · rename_i xs E2 e2
          cases e
          refine op_kept I e1 fun v H1 S1 p1 l1 => ?_
          refine ih (by simpa [CEs.len] using hl) p1.ok e2 fun vs H2 S2 p2 l2 => ?_
          exact q (v :: vs) H2 S2 (p1.trans p2) (.cons (l1.mono p2.grow) l2)
        · cases e
      · cases e
theorem kvOf_key {k : DKey} (h : k.ok false = true) : ∃ j, k.toKey = some j ∧ kvOf k = kV j := by
  cases k <;> first | exact ⟨_, rfl, rfl⟩ | cases h
theorem zip_keys {K : PySem.W.Frag} {S : Hp} : ∀ {ks : List DKey} {ds : List Fi.D} {vs : List V}, ks.all (DKey.ok false) = true → ks.length = ds.length → RepL K S ds vs →
    ∃ es : List (Key × V), (ks.map kvOf).zip vs = es.map (fun kv => (kV kv.1, kv.2)) ∧ es.length = ks.length ∧ ∀ kvs0 es0, RepK K S kvs0 es0 → RepK K S ((ks.zip ds).foldl (fun acc kd => kput kd.1 kd.2 acc) kvs0) (mergeK es0 es) := by
  intro ks
  induction ks with
  | nil => intro ds vs h hl r; cases ds with | nil => exact ⟨[], by simp, rfl, fun _ _ r => r⟩ | cons => cases hl
  | cons k ks ih =>
    intro ds vs h hl r
    cases ds with
    | nil => cases hl
    | cons d ds =>
      cases r with
      | @cons _ v _ vs rv rl =>
        simp only [List.all_cons, Bool.and_eq_true] at h
        obtain ⟨es, e1, e2, e3⟩ := ih h.2 (by simpa using hl) rl
        obtain ⟨j, hj, hk⟩ := kvOf_key h.1
        refine ⟨(j, v) :: es, by simp [e1, hk], by simp [e2], fun kvs0 es0 r0 => ?_⟩
        exact e3 _ _ (put_rep r0 hj rv)
theorem so_dsp {keys : List (Option Expr)} {vals : List Expr} {ks : List DKey} {cs : CEs} {pos : Pos} (hl : ks.length = cs.len) (h : PPs X pos keys vals (dspT X.K C ks cs)) (hall : keys.all (·.isSome) = true) (hkl : keys.length = vals.length) (h0 : keys ≠ []) (h15 : keys.length ≤ 15) :
    PE X (.Dict keys vals pos) (tE X.K C (.dsp ks cs)) := by
  refine PE.imp (pe_disp h hall hkl h0 h15) fun σ H Q ⟨S, E, r, E', I, e, q⟩ => ?_
  unfold evE at e
  split at e
  · rename_i rs E1 e1
    split at e
    · rename_i ds E2 e2
      split at e
      · rename_i c
        simp only [Bool.and_eq_true, decide_eq_true_eq] at c
        obtain ⟨⟨⟨c1, c2⟩, c3⟩, c4⟩ := c
        cases e
        intro p hp
        have x0 := (ext_new (o := .dK []) I.sub hp).post I
        have sp := same_none I.sub hp
        have np : ¬ Own σ E p := fun z => by
          obtain ⟨o, ho, _⟩ := own_some I z
          rw [hp] at ho; cases ho
        refine dsp_read hl x0.ok e1 fun vs H1 S1 p1 l1 => ?_
        obtain ⟨S2, p2, rl⟩ := l1.tks p1.ok e2
        have p02 : Post X.K S (upd H p (.dK [])) σ E S2 H1 σ E' := p1.trans p2
        have hp1 := p02.frame p _ np upd_same
        have sp2 := p02.keepS p _ np upd_same sp
        have np2 : ¬ Own σ E' p := fun z => (p02.own p z).elim np fun z => by rw [upd_same] at z; cases z
        obtain ⟨es, ez, el, em⟩ := zip_keys c4 c1 rl
        refine ⟨hp1, es, ez, by rw [el]; exact c3, ?_⟩
        have pall := (x0.trans p02).upd_new (o := .dK (mergeK [] es)) hp sp2 (by rw [hp1]; simp) np2
        exact q _ _ S2 pall (.ow rfl hp sp2 (by rw [upd_same]; exact .dK (em _ _ .nil)) np2)
      · cases e
    · cases e
  · cases e

/-! ### membership -/
theorem in_read (neg : Bool) {o : O2} (ho : o = if neg then .nin else .inn) {ca cb : CE} {σ : L2.St} {H : Hp} {Q : VK} (h : tE X.K C (.op2 o ca cb) σ H Q) :
    tOp (rInA X.K neg) (tE X.K C ca) (tE X.K C cb) σ H Q ∨ (if neg then tDNotIn (tE X.K C ca) (tE X.K C cb) σ H Q else tDIn (tE X.K C ca) (tE X.K C cb) σ H Q) := by
  obtain ⟨S, E, rr, E', I, e, q⟩ := h
  unfold evE at e
  split at e
  · rename_i ra E1 e1
    split at e
    · rename_i rb E2 e2
      split at e
      · rename_i da db va vb
        simp only [Option.map_eq_some_iff] at e
        obtain ⟨p, hp, e⟩ := e
        cases e
        have hp' : ∃ r, inD da db = some r ∧ p = .sc (.bl (if neg then !r else r)) := by
          cases neg
          · subst ho
            simp only [op2D, Option.map_eq_some_iff, Bool.false_eq_true, if_false] at hp
            obtain ⟨r, hr, rfl⟩ := hp
            exact ⟨r, hr, rfl⟩
          · subst ho
            simp only [op2D, Option.map_eq_some_iff, if_true] at hp
            obtain ⟨r, hr, rfl⟩ := hp
            exact ⟨r, hr, rfl⟩
        obtain ⟨r, hr, rfl⟩ := hp'
        by_cases nd : notDct db = true
        · left
          refine op_kept I e1 fun x H1 S1 p1 l1 => ?_
          refine op_kept p1.ok e2 fun y H2 S2 p2 l2 => ?_
          have p12 := p1.trans p2
          exact prim_in neg p12.sub ((l1.mono p2.grow).vw p12.ok va) (l2.vw p12.ok vb) hr nd fun v H' S' x r => op_end I q p12 x r
        · right
          have core : ∀ (x y : V) (H2 S2 : Hp), Post X.K S H σ E S2 H2 σ E' → Vw X.K S2 H2 da x → Vw X.K S2 H2 db y → ∃ a o, y = .ref a ∧ DGet H2 a x o ∧ Q (.bl (if neg then !o.isSome else o.isSome)) H2 := fun x y H2 S2 p12 vx vy => by
            unfold inD at hr
            split at hr <;> first | (exact absurd rfl nd) | skip
            · rename_i kvs
              simp only [Option.bind_eq_some_iff] at hr
              obtain ⟨k, hk, hr⟩ := hr
              split at hr
              · rename_i ok
                cases hr
                obtain ⟨a, o, ex, g, g1, g2⟩ := dget_rep p12.sub vy vx hk ok
                refine ⟨a, o, ex, g, ?_⟩
                have : o.isSome = (kget k kvs).isSome := by
                  cases w : kget k kvs with
                  | none => rw [g2 w]; rfl
                  | some d => obtain ⟨v, ev, _⟩ := g1 d w; rw [ev]; rfl
                rw [this]
                exact op_end I q p12 (.refl p12.sub) (.sc (.bl _))
              · cases hr
            · cases hr
          cases neg
          · refine op_kept I e1 fun x H1 S1 p1 l1 => ?_
            refine op_kept p1.ok e2 fun y H2 S2 p2 l2 => ?_
            have p12 := p1.trans p2
            exact core x y H2 S2 p12 ((l1.mono p2.grow).vw p12.ok va) (l2.vw p12.ok vb)
          · refine op_kept I e1 fun x H1 S1 p1 l1 => ?_
            refine op_kept p1.ok e2 fun y H2 S2 p2 l2 => ?_
            have p12 := p1.trans p2
            exact core x y H2 S2 p12 ((l1.mono p2.grow).vw p12.ok va) (l2.vw p12.ok vb)
      · cases e
    · cases e
  · cases e
theorem mark_ok {op : CmpOp} {b : Expr} (h : isSetD b = false) : behindInMarks op b = false := by
  cases b <;> first | rfl | cases h
/-- the outcome of a comparison -/
def isCmpO : O2 → Bool
  | .eq => true | .ne => true | .lt => true | .le => true | .gt => true | .ge => true | .is => true | .isn => true | .inn => true | .nin => true
  | _ => false
theorem cmp_bl {o : O2} (h : isCmpO o = true) {a b : Fi.D} {p : PR} (e : op2D o a b = some p) : ∃ k, p = .sc (.bl k) := by
  have cm : ∀ {f : Int → Int → Bool} {g : PyData → PyData → Bool}, cmpA f g a b = some p → ∃ k, p = .sc (.bl k) := fun {f g} e => by
    unfold cmpA at e
    split at e
    · cases e; exact ⟨_, rfl⟩
    · unfold ordD at e
      split at e
      · split at e
        · cases e; exact ⟨_, rfl⟩
        · cases e
      · cases e
  have is : ∀ {neg : Bool}, isD neg a b = some p → ∃ k, p = .sc (.bl k) := fun {f} e => by
    unfold isD at e
    split at e
    · cases e; exact ⟨_, rfl⟩
    · cases e
  cases o <;> first | (cases h; done) | (simp only [op2D] at e; first | exact cm e | exact is e | (simp only [Option.map_eq_some_iff] at e; obtain ⟨r, _, rfl⟩ := e; exact ⟨_, rfl⟩))
theorem cmp_res {o : O2} (h : isCmpO o = true) {ca cb : CE} : ∀ E r E', evE C (.op2 o ca cb) E = some (r, E') → ∃ k, r = .sh (.bl k) := by
  intro E r E' e
  unfold evE at e
  split at e
  · split at e
    · split at e
      · simp only [Option.map_eq_some_iff] at e
        obtain ⟨p, hp, e⟩ := e
        obtain ⟨k, rfl⟩ := cmp_bl h hp
        cases e
        exact ⟨k, rfl⟩
      · cases e
    · cases e
  · cases e
/-- a comparison, by its rule -/
theorem so_cmpO {a b : Expr} {ca cb : CE} {o : O2} {op : CmpOp} {r : R2} {pos : Pos} (hc : isCmpO o = true) (ho : OpR X (compareOp op) r) (pr : Prim2 X.K r (op2D o)) (hs : isSetD b = false) (ha : PE X a (tE X.K C ca)) (hb : PE X b (tE X.K C cb)) :
    PE X (.Compare a [op] [b] pos) (tE X.K C (.op2 o ca cb)) ∧ PT X (.Compare a [op] [b] pos) (tT X.K C (.op2 o ca cb)) := by
  refine ⟨so_op2 (fun h1 h2 => pe_cmpR ho h1 h2 (mark_ok hs)) pr ha hb, so_cmpT (pt_cmpR ho ha hb (mark_ok hs)) (fun σ H Q ⟨S, E, rr, E', I, e, q⟩ => ?_) (cmp_res hc)⟩
  unfold evE at e
  split at e
  · rename_i ra E1 e1
    split at e
    · rename_i rb E2 e2
      split at e
      · rename_i da db va vb
        simp only [Option.map_eq_some_iff] at e
        obtain ⟨p, hp, e⟩ := e
        cases e
        refine op_kept I e1 fun x H1 S1 p1 l1 => ?_
        refine op_kept p1.ok e2 fun y H2 S2 p2 l2 => ?_
        have p12 := p1.trans p2
        exact pr S2 H2 x y da db p Q p12.sub ((l1.mono p2.grow).vw p12.ok va) (l2.vw p12.ok vb) hp fun v H' S' x r => op_end I q p12 x r
      · cases e
    · cases e
  · cases e
theorem PT.or {X : Cx} {e : Expr} {t t' : TT} (h : PT X e t) (h' : PT X e t') : PT X e (fun σ H Q => t σ H Q ∨ t' σ H Q) := ⟨fun pins s σ H Q I q => q.elim (h.run pins s σ H Q I) (h'.run pins s σ H Q I)⟩
theorem tT_of_bl {c : CE} {σ : L2.St} {H : Hp} {Q : Bool → Hp → Prop} (hb : ∀ E r E', evE C c E = some (r, E') → ∃ k, r = .sh (.bl k)) (h : tT X.K C c σ H Q) : tE X.K C c σ H fun x H1 => ∃ k, x = .bl k ∧ Q k H1 := by
  obtain ⟨S, E, r, E', k, I, e, tk, q⟩ := h
  obtain ⟨k', rfl⟩ := hb E r E' e
  refine ⟨S, E, _, E', I, e, fun v H1 S1 p1 r1 => ?_⟩
  have tk : some k' = some k := tk
  cases tk
  cases r1 with
  | sh r => cases r; exact ⟨_, rfl, q H1 S1 p1⟩
theorem so_in (O : Ok X N sc C F n) {a b : Expr} {ca cb : CE} {pos : Pos} (hs : isSetD b = false) (ha : PE X a (tE X.K C ca)) (hb : PE X b (tE X.K C cb)) :
    PE X (.Compare a [.In] [b] pos) (tE X.K C (.op2 .inn ca cb)) ∧ PT X (.Compare a [.In] [b] pos) (tT X.K C (.op2 .inn ca cb)) :=
  ⟨PE.imp (PE.or (pe_cmpR (op_inA O.u66) ha hb (mark_ok hs)) (pe_cmp (pc_din O.u1 ha hb) (mark_ok hs))) fun σ H Q h => in_read false rfl h,
   PT.imp (PT.or (pt_cmpR (op_inA O.u66) ha hb (mark_ok hs)) (pt_cmp (pc_din O.u1 ha hb) (mark_ok hs))) fun σ H Q h => in_read false rfl (tT_of_bl (cmp_res rfl) h)⟩
theorem so_nin (O : Ok X N sc C F n) {a b : Expr} {ca cb : CE} {pos : Pos} (hs : isSetD b = false) (ha : PE X a (tE X.K C ca)) (hb : PE X b (tE X.K C cb)) :
    PE X (.Compare a [.NotIn] [b] pos) (tE X.K C (.op2 .nin ca cb)) ∧ PT X (.Compare a [.NotIn] [b] pos) (tT X.K C (.op2 .nin ca cb)) :=
  ⟨PE.imp (PE.or (pe_cmpR (op_ninA O.u66) ha hb (mark_ok hs)) (pe_cmp (pc_dnotin O.u1 ha hb) (mark_ok hs))) fun σ H Q h => in_read true rfl h,
   PT.imp (PT.or (pt_cmpR (op_ninA O.u66) ha hb (mark_ok hs)) (pt_cmp (pc_dnotin O.u1 ha hb) (mark_ok hs))) fun σ H Q h => in_read true rfl (tT_of_bl (cmp_res rfl) h)⟩
end
end Fi
end

section
/-! FiChn: a op b op c. Own work. -/
namespace Fi
open PySem PySem.Spec L2
variable [J : HW]
section
variable {X : Cx} {N : List Str} {sc W : Nms} {C : Ctx} {F : List (Str × Nat)} {n : Nat}
theorem chain_read {ca cb cc : CE} {o p : O2} {r r' : R2} (pr : Prim2 X.K r (op2D o)) (pr' : Prim2 X.K r' (op2D p)) {σ : L2.St} {H : Hp} {Q : VK} (h : tE X.K C (.chn o p ca cb cc) σ H Q) : tChain r r' (tE X.K C ca) (tE X.K C cb) (tE X.K C cc) σ H Q := by
  obtain ⟨S, E, rr, E', I, e, q⟩ := h
  unfold evE at e
  split at e
  · rename_i ra E1 e1
    split at e
    · rename_i rb E2 e2
      split at e
      · rename_i da db va vb
        refine op_kept I e1 fun x H1 S1 p1 l1 => ?_
        refine op_kept p1.ok e2 fun y H2 S2 p2 l2 => ?_
        have p12 := p1.trans p2
        split at e
        · rename_i ho
          split at e
          · rename_i rc E3 e3
            split at e
            · rename_i db2 dc vb2 vc
              simp only [Option.map_eq_some_iff] at e
              obtain ⟨pq, hp, e⟩ := e
              cases e
              refine pr S2 H2 x y da db _ _ p12.sub ((l1.mono p2.grow).vw p12.ok va) (l2.vw p12.ok vb) ho fun v H3 S3 ex pres => ?_
              have p3 := ex.post p12.ok
              cases pres with
              | sc rv =>
                cases rv
                refine ⟨true, rfl, ?_⟩
                rw [if_pos rfl]
                refine op_kept p3.ok e3 fun w H4 S4 p4 l4 => ?_
                have p14 := (p12.trans p3).trans p4
                exact pr' S4 H4 y w db2 dc pq Q p14.sub ((l2.mono (p3.trans p4).grow).vw p14.ok vb2) (l4.vw p14.ok vc) hp fun v H' S' x r => op_end I q p14 x r
            · cases e
          · cases e
        · rename_i ho
          cases e
          refine pr S2 H2 x y da db _ _ p12.sub ((l1.mono p2.grow).vw p12.ok va) (l2.vw p12.ok vb) ho fun v H3 S3 ex pres => ?_
          have p3 := ex.post p12.ok
          cases pres with
          | sc rv =>
            cases rv
            refine ⟨false, rfl, ?_⟩
            rw [if_neg (by decide)]
            exact q (.bl false) H3 S3 (p12.trans p3) (.sh (.bl false))
        · cases e
      · cases e
    · cases e
  · cases e
theorem chain_res {o p : O2} (h : isCmpO p = true) {ca cb cc : CE} : ∀ E r E', evE C (.chn o p ca cb cc) E = some (r, E') → ∃ k, r = .sh (.bl k) := by
  intro E r E' e
  unfold evE at e
  split at e
  · split at e
    · split at e
      · split at e
        · split at e
          · split at e
            · simp only [Option.map_eq_some_iff] at e
              obtain ⟨p, hp, e⟩ := e
              obtain ⟨k, rfl⟩ := cmp_bl h hp
              cases e
              exact ⟨k, rfl⟩
            · cases e
          · cases e
        · cases e; exact ⟨_, rfl⟩
        · cases e
      · cases e
    · cases e
  · cases e
def isOrdO : CmpOp → Bool
  | .Lt => true | .LtE => true | .Gt => true | .GtE => true | .Eq => true | .NotEq => true
  | _ => false
theorem opr_of (O : Ok X N sc C F n) {op : CmpOp} (h : isOrdO op = true) {o : O2} (ho : (match op with | .Lt => O2.lt | .LtE => .le | .Gt => .gt | .GtE => .ge | .Eq => .eq | _ => .ne) = o) : ∃ r, OpR X (compareOp op) r ∧ Prim2 X.K r (op2D o) ∧ isCmpO o = true := by
  subst ho
  cases op <;> first | (cases h; done) | skip
  · exact ⟨_, op_eqP O.u66, prim_eq, rfl⟩
  · exact ⟨_, op_neP O.u66, prim_ne, rfl⟩
  · exact ⟨_, op_ltA O.u66, prim_cmp _ _, rfl⟩
  · exact ⟨_, op_leA O.u66, prim_cmp _ _, rfl⟩
  · exact ⟨_, op_gtA O.u66, prim_cmp _ _, rfl⟩
  · exact ⟨_, op_geA O.u66, prim_cmp _ _, rfl⟩
theorem so_chain (O : Ok X N sc C F n) {a b c : Expr} {ca cb cc : CE} {op op' : CmpOp} {o o' : O2} {pos : Pos} (h : isOrdO op = true) (h' : isOrdO op' = true) (ho : (match op with | .Lt => O2.lt | .LtE => .le | .Gt => .gt | .GtE => .ge | .Eq => .eq | _ => .ne) = o)
    (ho' : (match op' with | .Lt => O2.lt | .LtE => .le | .Gt => .gt | .GtE => .ge | .Eq => .eq | _ => .ne) = o') (ha : PE X a (tE X.K C ca)) (hb : PE X b (tE X.K C cb)) (hc : PE X c (tE X.K C cc)) :
    PE X (.Compare a [op, op'] [b, c] pos) (tE X.K C (.chn o o' ca cb cc)) ∧ PT X (.Compare a [op, op'] [b, c] pos) (tT X.K C (.chn o o' ca cb cc)) := by
  obtain ⟨r, r1, r2, _⟩ := opr_of O h ho
  obtain ⟨r', r1', r2', r3'⟩ := opr_of O h' ho'
  have hm : lastMarks [op, op'] [b, c] = false := by
    show behindInMarks op' c = false
    exact nomark c (by intro z; subst z; cases h') (by intro z; subst z; cases h')
  exact ⟨PE.imp (pe_chain r1 r1' ha hb hc hm) fun σ H Q q => chain_read r2 r2' q, so_cmpT (pt_chain r1 r1' ha hb hc hm) (fun σ H Q q => chain_read r2 r2' q) (chain_res r3')⟩
end
end Fi
end

section
/-! FiRev: a tuple turned round by a slice. Own work. -/
namespace Fi
open PySem PySem.Spec L2 PyProof.Rows
variable [J : HW]
section
variable {prog : Program} {w : World} {A : Around} {E : Value → Shared → Prop} {s : Shared}
theorem adjust_rev (n : Nat) : Builtin.Slice.sliceAdjust none none (-1) (n : Int) = ((n : Int) - 1, -1) := rfl
theorem places_rev (n : Nat) : Builtin.Slice.slicePlaces ((n : Int) - 1) (-1) (-1) = n := by
  unfold Builtin.Slice.slicePlaces
  rw [if_neg (by omega)]
  split
  · simp
  · omega
theorem applied_rev {sl : Addr} {vk : Value} {n : Nat} {Q : Int × Int × Nat → Shared → Prop} (hs : s.heap.IsSliceOf sl .none .none vk) (pk : IsPart vk (some (-1))) (h : Q ((n : Int) - 1, -1, n) s) :
    wpAny (model prog w) A (Builtin.Slice.sliceApplied (.ref sl) (pure (n : Int))) Q E s := by
  obtain ⟨os, hos, hcs, hds⟩ := id hs
  unfold Builtin.Slice.sliceApplied Builtin.Slice.sliceFields
  refine wpAny_bind (wpAny_bind (wpAny_field hos hds (x := .none) rfl (wpAny_bind (wpAny_field hos hds (x := .none) rfl (wpAny_bind (wpAny_field hos hds (x := vk) rfl (wpAny_pure ?_)))))))
  refine wpAny_bind (HT.slicePart_ pk ?_)
  show wpAny _ _ (if ((-1 : Int) == 0) = true then _ else _) _ _ s
  rw [if_neg (by decide)]
  refine wpAny_bind (slicePart_none (wpAny_bind (slicePart_none (wpAny_bind (wpAny_pure ?_)))))
  show wpAny _ _ (match Builtin.Slice.sliceAdjust none none (-1) (n : Int) with | (lo, hi) => pure (lo, (-1 : Int), Builtin.Slice.slicePlaces lo hi (-1))) _ _ s
  rw [adjust_rev n]
  show wpAny _ _ (pure (((n : Int) - 1, (-1 : Int), Builtin.Slice.slicePlaces ((n : Int) - 1) (-1) (-1)))) _ _ s
  rw [places_rev]
  exact wpAny_pure h
theorem fm_congr {α β : Type} {f g : α → Option β} : ∀ {l : List α}, (∀ a ∈ l, f a = g a) → l.filterMap f = l.filterMap g
  | [], _ => rfl
  | a :: l, h => by
    rw [List.filterMap_cons, List.filterMap_cons, h a List.mem_cons_self, fm_congr fun b hb => h b (List.mem_cons_of_mem _ hb)]
theorem pick_rev (xs : Array Value) : ((List.range xs.size).filterMap fun (m : Nat) => xs[(((xs.size : Nat) : Int) - 1 + (m : Int) * (-1)).toNat]?).toArray = xs.toList.reverse.toArray := by
  congr 1
  have e : ∀ m ∈ List.range xs.size, xs[(((xs.size : Nat) : Int) - 1 + (m : Int) * (-1)).toNat]? = xs.toList.reverse.toArray[m]? := fun m hm => by
    have hm : m < xs.size := by simpa using hm
    have h1 : xs.toList.reverse.toArray[m]? = xs.toList.reverse[m]? := by simp
    rw [h1, List.getElem?_reverse (by simpa using hm)]
    rw [show (((xs.size : Nat) : Int) - 1 + (m : Int) * (-1)).toNat = xs.toList.length - 1 - m by simp; omega]
    simp
  rw [fm_congr e]
  have h := PySem.W.krv_all xs.toList.reverse.toArray
  rw [show xs.toList.reverse.toArray.size = xs.size by simp] at h
  exact h
theorem getItem_tuple_rev {t sl : Addr} {items : Array Value} {vk : Value} {Q : Value → Shared → Prop} (ht : IsTup s.heap t items) (hs : s.heap.IsSliceOf sl .none .none vk) (pk : IsPart vk (some (-1)))
    (h : Q (.ref s.heap.objs.size) { s with heap := s.heap.push { cls := .type "tuple", data := .seq items.toList.reverse.toArray } }) (hsz : items.size ≤ sizeLine) : wpAny (model prog w) A (getItem (.ref t) (.ref sl)) Q E s := by
  have htake : sizeOk (.seq items.toList.reverse.toArray) := by
    show items.toList.reverse.toArray.size ≤ sizeLine
    simpa using hsz
  obtain ⟨os, hos, hcs, hds⟩ := id hs
  have hTs : s.TypeIs (.ref sl) "slice" := ⟨os, hos, hcs⟩
  unfold getItem
  try with_reducible refine wpAny_holding ?_
  first | refine wpAny_bind (wpAny_pure ?_) | skip
  refine wpAny_bind (wpAny_sequenceKey ht.typeIs (by decide) ?_)
  refine wpAny_bind (wpAny_callSpecial?_slot (name := Str.ofString "__getitem__") ht.typeIs PyProof.Rows.slot_tuple_getitem
    (wpAny_call_entry PyProof.Rows.slot_tuple_getitem ht.typeIs entry_tuple_getitem ?_ (args_tuple_getitem _ _)))
  show wpAny _ _ (Builtin.Tuple.tupleItemsOf (.ref t) >>= _) _ _ s
  refine wpAny_bind (tupleItemsOf_ ht ?_)
  refine wpAny_bind (wpAny_typeOf hTs ?_)
  rw [if_pos (by decide)]
  refine wpAny_bind (applied_rev hs pk ?_)
  show wpAny _ _ (if (((items.size : Nat) : Int) - 1 == 0 && (-1 : Int) == 1 && items.size == items.size) = true then _ else _) _ _ s
  rw [if_neg (by rw [show ((-1 : Int) == 1) = false from rfl, Bool.and_false]; simp), pick_rev]
  first
    | exact wpAny_bind (m := Builtin.Tuple.tupleExact _) (wpAny_newObj_type (wpAny_pure ⟨_, rfl, wpAny_pure h⟩) htake)
    | exact wpAny_bind (m := Builtin.Tuple.tupleExact _) (wpAny_newObj_type (wpAny_bind (wpAny_pure (wpAny_pure ⟨_, rfl, wpAny_pure h⟩))) htake)
    | exact wpAny_bind (wpAny_bind (m := Builtin.Tuple.tupleExact _) (wpAny_newObj_type (wpAny_pure (wpAny_pure ⟨_, rfl, wpAny_pure h⟩)) htake))
    | exact wpAny_bind (wpAny_bind (m := Builtin.Tuple.tupleExact _) (wpAny_newObj_type (wpAny_pure ⟨_, rfl, wpAny_pure h⟩) htake))
end
section
variable {X : Cx} {C : Ctx}
def tRevT (K : PySem.W.Frag) (te : TE) : TE := fun σ H Q => te σ H fun x H1 => ∃ a xs, x = .ref a ∧ SqT K H1 a xs ∧ NewT H1 xs.reverse Q
theorem pe_revT {e : Expr} {te : TE} {k : Nat} {p1 p2 p3 pos : Pos} (he : PE X e te) : PE X (.Subscript e (.Slice none none (some (.UnaryOp .USub (.Constant (.int 1) k p1) p2)) p3) pos) (tRevT X.K te) := by
  refine ⟨fun pins s σ H Q I h => ?_⟩
  refine Subscript_ (thn (he.run pins s σ H _ I h) fun v s1 ⟨x, H1, I1, r1, q1⟩ => ?_)
  obtain ⟨a, xs, ex, hx, q⟩ := q1
  subst ex
  cases r1
  have hst : PO X (some (.UnaryOp .USub (.Constant (.int 1) k p1) p2)) (tPart (tUn (rU fun i => .int (-i)) (tC (.int 1)))) := po_some (pe_un un_neg pe_int)
  refine wpAny_Slice (thn (po_none.run pins s1 σ H1 (fun o H2 => o = none ∧ H2 = H1) I1 ⟨rfl, rfl⟩) fun vl s2 ⟨l, H2, I2, pl, el, e2⟩ => ?_)
  subst el e2
  refine thn (po_none.run pins s2 σ H2 (fun o H3 => o = none ∧ H3 = H2) I2 ⟨rfl, rfl⟩) fun vu s3 ⟨u, H3, I3, pu, eu, e3⟩ => ?_
  subst eu e3
  refine thn (hst.run pins s3 σ H3 (fun o H4 => o = some (-1) ∧ H4 = H3) I3 ⟨1, rfl, -1, rfl, rfl, rfl⟩) fun vs s4 ⟨o, H4, I4, ps, eo, e4⟩ => ?_
  subst eo e4
  have I5 : Inv X pins σ H4 { s4 with heap := s4.heap.push { cls := .type "slice", data := .fields #[vl, vu, vs] } } := I4.kept (t' := s4.toks) fun b ob q => Heap.get?_push_of_some _ q
  obtain ⟨its, r, ht, hz⟩ := I5.tuple hx
  have hlen := r.length
  cases pl
  cases pu
  refine tail_any (ops := [.ref a, .ref s4.heap.objs.size]) ht.typeIs PyProof.Rows.slot_tuple_getitem.lookup ?_ (by with_unfolding_all rfl)
  refine getItem_tuple_rev ht (Heap.IsSliceOf.new _ .none .none vs) ps ?_ (by rw [List.size_toArray]; omega)
  exact ⟨.ref _, _, laid_frz I5 r.reverse (by rw [List.length_reverse]; exact hz), rfl, q _ _ (I5.hok.fresh (Nat.le_refl _)) rfl⟩
theorem so_rev {e : Expr} {c : CE} {k : Nat} {p1 p2 p3 pos : Pos} (h : PE X e (tE X.K C c)) : PE X (.Subscript e (.Slice none none (some (.UnaryOp .USub (.Constant (.int 1) k p1) p2)) p3) pos) (tE X.K C (.rev c)) := by
  refine PE.imp (PE.or (pe_revL h) (pe_revT h)) fun σ H Q ⟨S, E, r, E', I, e, q⟩ => ?_
  unfold evE at e
  split at e
  · rename_i ra E1 e1
    split at e
    · rename_i da va
      simp only [Option.map_eq_some_iff] at e
      obtain ⟨p, hp, e⟩ := e
      cases e
      unfold revD at hp
      split at hp
      · cases hp
        left
        refine op_kept I e1 fun x H1 S1 p1 l1 => ?_
        obtain ⟨a, vs, rfl, ha, rl⟩ := (l1.vw p1.ok (by rw [vw_fz]; exact va)).lst p1.sub
        exact ⟨a, vs, rfl, .of ha, fun p hp => op_end (p := .fr _) I q p1 (ext_new p1.sub hp) (new_fr p1.sub hp (.lst rl.reverse))⟩
      · cases hp
        right
        refine op_kept I e1 fun x H1 S1 p1 l1 => ?_
        obtain ⟨a, vs, rfl, ha, rl⟩ := (l1.vw p1.ok (by rw [vw_fz]; exact va)).tup p1.sub
        exact ⟨a, vs, rfl, ha, fun p o hp ho => op_end (p := .sc _) I q p1 (ext_tup p1.sub hp) (.sc (new_tup p1.sub hp ho rl.reverse))⟩
      · cases hp
    · cases e
  · cases e
end
end Fi
end

section
/-! FiN: from the program's text to code; the code reads as the text runs. Expressions. Own work. -/
namespace Fi
open PySem PySem.Spec L2

/-! ### tables -/
def trTy (x : Str) : Option String :=
  if x = ("dict" : Str) then some "dict" else if x = ("tuple" : Str) then some "tuple" else if x = ("list" : Str) then some "list" else if x = ("bool" : Str) then some "bool" else if x = ("int" : Str) then some "int" else if x = ("str" : Str) then some "str" else none
def trBlt (x : Str) : Option Blt :=
  if x = ("len" : Str) then some .len else if x = ("abs" : Str) then some .abs else if x = ("int" : Str) then some .int else if x = ("tuple" : Str) then some .tuple else if x = ("list" : Str) then some .list
  else if x = ("any" : Str) then some .any else if x = ("all" : Str) then some .all else if x = ("isinstance" : Str) then some .isinst else if x = ("sorted" : Str) then some .sorted else if x = ("dict" : Str) then some .dict else none
def opB : Operator → Option O2
  | .Add => some .add | .Sub => some .sub | .Mult => some .mul | .FloorDiv => some .fdiv | .Mod => some .mod | .Pow => some .pow
  | _ => none
def opC : CmpOp → Option O2
  | .Eq => some .eq | .NotEq => some .ne | .Lt => some .lt | .LtE => some .le | .Gt => some .gt | .GtE => some .ge | .Is => some .is | .IsNot => some .isn | .In => some .inn | .NotIn => some .nin
def trC : Const → Option D
  | .none => some .non | .bool b => some (.bl b) | .int i => some (.int i) | .str s => some (.str s.cps.toList)
  | _ => none
def keyOfE : Option Expr → Option DKey
  | some (.Constant (.str s) _ _) => some (.s s.cps.toList)
  | some (.Constant (.int i) _ _) => some (.i i)
  | _ => none
def keysOf : List (Option Expr) → Option (List DKey)
  | [] => some []
  | k :: ks => match keyOfE k, keysOf ks with
    | some a, some b => some (a :: b)
    | _, _ => none
/-- the names of a comprehension's block, seen from within -/
def relN (names sc : Nms) : Nms := names.map fun (n, k) => if (k == .free && sc.lookup n == some .cell) then (n, .cell) else (n, k)
def ownOf (N : List Str) (names : Nms) : List (Str × Nat) := names.filterMap fun (x, k) => if k == .local || k == .cell then (slot N x).map (x, ·) else none
def scN (names : Nms) : Scope := { kind := .function, names := names, isGenerator := false, isCoroutine := false }
def trTg (N : List Str) (sc W : Nms) : Expr → Option Tg
  | .Name x _ => if sto sc W x then (slot N x).map .nm else none
  | .Tuple es _ _ => (nmSlots N sc W es).map .tp
  | _ => none
def isRng (e : Expr) : Bool := match e with
  | .Call (.Name f _) _ _ _ => f == ("range" : Str)
  | _ => false

/-- a name that is a slot -/
def nmSlot (N : List Str) (sc : Nms) : Expr → Option Nat
  | .Name x _ => if (x == ("__debug__" : Str)) || (x == ("__classdict__" : Str)) then none else if vis sc x then slot N x else none
  | _ => none
/-- sorted(set(a)) -/
def isSS (sc : Nms) (f : Str) : List Expr → Option Expr
  | [.Call (.Name g _) [a] [] _] => if (f == ("sorted" : Str)) && (g == ("set" : Str)) && (sc.lookup g == some .globalImplicit) && !isStar a then some a else none
  | _ => none
/-- list(range(a)) -/
def isLR (sc : Nms) (f : Str) : List Expr → Option Expr
  | [.Call (.Name g _) [a] [] _] => if (f == ("list" : Str)) && (g == ("range" : Str)) && (sc.lookup g == some .globalImplicit) && !isStar a then some a else none
  | _ => none
def isLR2 (sc : Nms) (f : Str) : List Expr → Option (Expr × Expr)
  | [.Call (.Name g _) [a, b] [] _] => if (f == ("list" : Str)) && (g == ("range" : Str)) && (sc.lookup g == some .globalImplicit) && !isStar a && !isStar b then some (a, b) else none
  | _ => none
def mkCmp (sl : Option Nat) (c : CE) (t : Tg) (ci : IT) (cs : CEs) (own : List Nat) : CE := match sl with
  | some i => .cmpV c t i cs own
  | none => .cmp c (.mk t ci cs) own

/-! ### the translation of expressions -/
section
variable (N : List Str) (F : List (Str × Nat))
mutual
def trE : Nat → Nms → Expr → Option CE
  | 0, _, _ => none
  | n + 1, sc, e => some (Option.getD (match e with
    | .Name x _ =>
      if (x == ("__debug__" : Str)) || (x == ("__classdict__" : Str)) then none
      else if vis sc x then (slot N x).map .var
      else if sc.lookup x == some .globalImplicit then (match trTy x with
        | some t => some (.con (.ty t))
        | none => some (.glo x))
      else none
    | .Constant c _ _ => (trC c).map .con
    | .Tuple es _ _ => (trEs n sc es).map .tup
    | .List es _ => (trEs n sc es).map .lst
    | .Dict ks vs _ => if ks.isEmpty && vs.isEmpty then some (.dct false .nil) else (match keysOf ks, trEs n sc vs with
      | some kk, some cs => if kk.length == cs.len && decide (0 < kk.length) && decide (kk.length ≤ 15) then some (.dsp kk cs) else none
      | _, _ => none)
    | .BinOp a op b _ => (match opB op, trE n sc a, trE n sc b with
      | some o, some ca, some cb => some (.op2 o ca cb)
      | _, _, _ => none)
    | .UnaryOp .Not a _ => (trE n sc a).map .not
    | .UnaryOp .USub a _ => (trE n sc a).map (.op1 .neg)
    | .BoolOp op (a :: r) _ => trW n sc op a r
    | .IfExp c a b _ => (match trE n sc c, trE n sc a, trE n sc b with
      | some cc, some ca, some cb => some (.ifx cc ca cb)
      | _, _, _ => none)
    | .Compare a [op] [b] _ => if isSetD b then none else (match opC op, trE n sc a, trE n sc b with
      | some o, some ca, some cb => some (.op2 o ca cb)
      | _, _, _ => none)
    | .Compare a [op, op'] [b, c] _ => if isOrdO op && isOrdO op' then (match opC op, opC op', trE n sc a, trE n sc b, trE n sc c with
      | some o, some o', some ca, some cb, some cc => some (.chn o o' ca cb cc)
      | _, _, _, _, _ => none) else none
    | .Subscript a s _ => (match s with
      | .Slice lo hi none _ => (match trE n sc a, trO n sc lo, trO n sc hi with
        | some ca, some cl, some ch => some (.cut ca cl ch)
        | _, _, _ => none)
      | .Slice none none (some (.UnaryOp .USub (.Constant (.int i) _ _) _)) _ => if i = 1 then (trE n sc a).map .rev else none
      | b => if isSlice b then none else (match trE n sc a, trE n sc b with
        | some ca, some cb => some (.idx ca cb)
        | _, _ => none))
    | .Call (.Name f _) args [] _ =>
      if (f == ("__debug__" : Str)) || !(sc.lookup f == some .globalImplicit) then none
      else (match trEs n sc args with
        | some cs => (match F.lookup f with
          | some m => if cs.len == m then some (.call f cs) else none
          | none => if args.isEmpty then none else (match isSS sc f args with
            | some a => (trE n sc a).map .sset
            | none => (match isLR sc f args with
              | some a => (trE n sc a).map fun c => .lrng (.rng1 c)
              | none => (match isLR2 sc f args with
                | some (a, b) => (match trE n sc a, trE n sc b with
                  | some ca, some cb => some (.lrng (.rng2 ca cb))
                  | _, _ => none)
                | none => (trBlt f).map fun b => .blt b cs))))
        | none => none)
    | .Call (.Attribute o m apos) args [] cpos =>
      if !(apos.endLine == cpos.line) || isBare o then none
      else (match trEs n sc args with
        | some cs =>
          if m = ("join" : Str) then (if args.length == 1 then (trE n sc o).map fun co => .mth .join co cs else none)
          else if m = ("get" : Str) then (if args.length == 1 then (trE n sc o).map fun co => .mth .get co cs else none)
          else (match o with
            | .Name x _ => if (x == ("__debug__" : Str)) || (x == ("__classdict__" : Str)) || !vis sc x then none else (match slot N x with
              | some i =>
                if m = ("append" : Str) then (if args.length == 1 then some (.mut .append i cs) else none)
                else if m = ("extend" : Str) then (if args.length == 1 then some (.mut .extend i cs) else none)
                else if m = ("pop" : Str) then (if args.isEmpty then some (.mut .pop i .nil) else none)
                else none
              | none => none)
            | _ => none)
        | none => none)
    | .ListComp elt [⟨tg, it, ifs, as⟩] scope _ =>
      if as == 0 && !isSetD it && blkC N (scN sc) scope (ownOf N scope.names) then
        (match trTg N (relN scope.names sc) scope.names tg, trI n sc it, trEs n (relN scope.names sc) ifs, trE n (relN scope.names sc) elt with
        | some t, some ci, some cs, some c => if decide (ifs.length ≤ 1) && t.slots.all (fun i => (ownOf N scope.names).any fun p => p.2 == i) then some (mkCmp (nmSlot N sc it) c t ci cs ((ownOf N scope.names).map (·.2))) else none
        | _, _, _, _ => none)
      else none
    | .ListComp elt [⟨tg, it, ifs, as⟩, ⟨tg2, it2, ifs2, as2⟩] scope _ =>
      if as == 0 && as2 == 0 && !isSetD it && !isSetD it2 && blkC N (scN sc) scope (ownOf N scope.names) then
        (match trTg N (relN scope.names sc) scope.names tg, trI n sc it, trEs n (relN scope.names sc) ifs, trTg N (relN scope.names sc) scope.names tg2, trI n (relN scope.names sc) it2, trEs n (relN scope.names sc) ifs2, trE n (relN scope.names sc) elt with
        | some t, some ci, some cs, some t2, some ci2, some cs2, some c => if decide (ifs.length ≤ 1) && decide (ifs2.length ≤ 1) && t.slots.all (fun i => (ownOf N scope.names).any fun p => p.2 == i) && t2.slots.all (fun i => (ownOf N scope.names).any fun p => p.2 == i) then
            some (.cmp2 c (.mk t ci cs) (.mk t2 ci2 cs2) ((ownOf N scope.names).map (·.2))) else none
        | _, _, _, _, _, _, _ => none)
      else none
    | _ => none) .bad)
def trEs : Nat → Nms → List Expr → Option CEs
  | 0, _, _ => none
  | n + 1, sc, es => match es with
    | [] => some .nil
    | e :: r => if isStar e then none else (match trE n sc e, trEs n sc r with
      | some c, some cs => some (.cons c cs)
      | _, _ => none)
def trW : Nat → Nms → BoolOp → Expr → List Expr → Option CE
  | 0, _, _, _, _ => none
  | n + 1, sc, op, a, r => match r with
    | [] => trE n sc a
    | b :: r' => (match trE n sc a, trW n sc op b r' with
      | some ca, some cb => some (match op with | .And => .and ca cb | .Or => .or ca cb)
      | _, _ => none)
def trO : Nat → Nms → Option Expr → Option CO
  | 0, _, _ => none
  | n + 1, sc, e => match e with
    | none => some .no
    | some a => (trE n sc a).map .so
def trI : Nat → Nms → Expr → Option IT
  | 0, _, _ => none
  | n + 1, sc, e => if isRng e then (match e with
      | .Call (.Name f _) [a] [] _ => if (sc.lookup f == some .globalImplicit) && !isStar a then (trE n sc a).map .rng1 else none
      | .Call (.Name f _) [a, b] [] _ => if (sc.lookup f == some .globalImplicit) && !isStar a && !isStar b then (match trE n sc a, trE n sc b with
        | some ca, some cb => some (.rng2 ca cb)
        | _, _ => none) else none
      | _ => none)
    else (trE n sc e).map .seq
end
end
end Fi
end

section
/-! FiO: the translation of expressions is right. Own work. -/
namespace Fi
open PySem PySem.Spec L2
variable [J : HW]

/-- expressions in a row -/
inductive PEL (X : Cx) (C : Ctx) : List Expr → CEs → Prop
  | nil : PEL X C [] .nil
  | cons {e : Expr} {es : List Expr} {c : CE} {cs : CEs} : isStar e = false → PE X e (tE X.K C c) → PT X e (tT X.K C c) → PEL X C es cs → PEL X C (e :: es) (.cons c cs)
section
variable {X : Cx} {N : List Str} {sc W : Nms} {C : Ctx} {F : List (Str × Nat)} {k : Nat}
theorem PEL.pa {es : List Expr} {cs : CEs} (h : PEL X C es cs) : PA X es (tEs X.K C cs) := by
  induction h with
  | nil => exact so_nil
  | cons s e _ _ ih => exact so_cons s e ih
theorem PEL.paF {es : List Expr} {cs : CEs} (h : PEL X C es cs) : PA X es (tFs X.K C cs) := by
  induction h with
  | nil => exact so_nilF
  | cons s e _ _ ih => exact so_consF s e ih
theorem PEL.len {es : List Expr} {cs : CEs} (h : PEL X C es cs) : cs.len = es.length := by
  induction h with
  | nil => rfl
  | cons _ _ _ _ ih => simp [CEs.len, ih]
theorem PEL.star {es : List Expr} {cs : CEs} (h : PEL X C es cs) : es.all (fun e => !isStar e) = true := by
  induction h with
  | nil => rfl
  | cons s _ _ _ ih => simp [s, ih]
theorem so_con_c {c : Const} {j : Nat} {pos : Pos} {d : Fi.D} (h : trC c = some d) : PE X (.Constant c j pos) (tE X.K C (.con d)) := by
  cases c <;> simp only [trC] at h <;> try (cases h; done)
  · cases h; exact so_con pe_non fun _ _ => .non
  · cases h; exact so_con pe_bl fun _ _ => .bl _
  · cases h; exact so_con pe_int fun _ _ => .int _
  · rename_i s
    cases h
    refine so_con (v := .str s) pe_str fun K S => ?_
    have : strOf s.cps.toList = s := by simp [strOf]
    have r := Rep.str (K := K) (S := S) s.cps.toList
    rw [this] at r
    exact r
theorem pel_pps {pos : Pos} {ks : List (Option Expr)} : ∀ {vs : List Expr} {kk : List DKey} {cs : CEs}, keysOf ks = some kk → PEL X C vs cs → ks.length = vs.length → PPs X pos ks vs (dspT X.K C kk cs) := by
  induction ks with
  | nil =>
    intro vs kk cs hk h hl
    cases vs with
    | nil => cases hk; cases h; exact pps_nil
    | cons _ _ => cases hl
  | cons x ks ih =>
    intro vs kk cs hk h hl
    cases vs with
    | nil => cases hl
    | cons v vs =>
      cases h with
      | cons s e _ r =>
        simp only [keysOf] at hk
        split at hk
        · rename_i a b ha hb
          cases hk
          have rest := ih hb r (by simpa using hl)
          unfold keyOfE at ha
          split at ha
          · rename_i s _ _
            cases ha
            refine pps_cons ?_ e rest
            have : strOf s.cps.toList = s := by simp [strOf]
            show PE X _ (tC (V.str (strOf s.cps.toList)))
            rw [this]
            exact pe_str
          · cases ha
            exact pps_cons pe_int e rest
          · cases ha
        · cases hk
theorem keysOf_len {ks : List (Option Expr)} : ∀ {kk : List DKey}, keysOf ks = some kk → kk.length = ks.length ∧ ks.all (·.isSome) = true := by
  induction ks with
  | nil => intro kk h; cases h; exact ⟨rfl, rfl⟩
  | cons x ks ih =>
    intro kk h
    simp only [keysOf] at h
    split at h
    · rename_i a b ha hb
      cases h
      obtain ⟨h1, h2⟩ := ih hb
      refine ⟨by simp [h1], ?_⟩
      unfold keyOfE at ha
      split at ha <;> first | (cases ha; done) | (simp [h2])
    · cases h
theorem boot_int' : bootBuiltins "int" = some (.type "int") := by decide +kernel
theorem boot_tuple' : bootBuiltins "tuple" = some (.type "tuple") := by decide +kernel
theorem boot_list' : bootBuiltins "list" = some (.type "list") := by decide +kernel
theorem boot_dict' : bootBuiltins "dict" = some (.type "dict") := by decide +kernel
theorem boot_bool' : bootBuiltins "bool" = some (.type "bool") := by decide +kernel
theorem boot_str' : bootBuiltins "str" = some (.type "str") := by decide +kernel
theorem boot_abs' : bootBuiltins "abs" = some (.builtin "abs") := by decide +kernel
theorem boot_any' : bootBuiltins "any" = some (.builtin "any") := by decide +kernel
theorem boot_all' : bootBuiltins "all" = some (.builtin "all") := by decide +kernel
theorem boot_isi' : bootBuiltins "isinstance" = some (.builtin "isinstance") := by decide +kernel
theorem boot_sorted' : bootBuiltins "sorted" = some (.builtin "sorted") := by decide +kernel
theorem so_ty (O : Ok X N sc C F k) {x : Str} {t : String} {pos : Pos} (hg : sc.lookup x = some .globalImplicit) (h : trTy x = some t) : PE X (.Name x pos) (tE X.K C (.con (.ty t))) := by
  have key : ∀ {y : Str} {t : String}, x = y → y ∈ blts → bootBuiltins y = some (.type t) → y ≠ "__name__" → (y == ("__debug__" : Str)) = false → PE X (.Name x pos) (tE X.K C (.con (.ty t))) := fun {y t} e m b n d => by
    subst e
    exact so_con (pe_bltn (v := .ty t) (O.gl hg) (O.blt _ m) b rfl n d) fun _ _ => .ty _
  unfold trTy at h
  split at h
  · rename_i e; cases h; exact key e (by decide) boot_dict' (by decide) (by decide)
  · split at h
    · rename_i e; cases h; exact key e (by decide) boot_tuple' (by decide) (by decide)
    · split at h
      · rename_i e; cases h; exact key e (by decide) boot_list' (by decide) (by decide)
      · split at h
        · rename_i e; cases h; exact key e (by decide) boot_bool' (by decide) (by decide)
        · split at h
          · rename_i e; cases h; exact key e (by decide) boot_int' (by decide) (by decide)
          · split at h
            · rename_i e; cases h; exact key e (by decide) boot_str' (by decide) (by decide)
            · cases h
theorem so_bltCall (O : Ok X N sc C F k) {x : Str} {f : Blt} {e : Expr} {es : List Expr} {cs : CEs} {p pos : Pos} (hg : sc.lookup x = some .globalImplicit) (h : trBlt x = some f) (ha : PEL X C (e :: es) cs) : PE X (.Call (.Name x p) (e :: es) [] pos) (tE X.K C (.blt f cs)) := by
  have hst := ha.star
  simp only [List.all_cons, Bool.and_eq_true, Bool.not_eq_true'] at hst
  have s1 := star_cons (es := es) (env := X.env) hst.1
  have s2 : ∀ pos, (backTo pos (starEach es X.env)).any (·.1) = false := fun pos => star_any hst.2
  have keyB : ∀ {y : Str} {id : String} {r : List V → Hp → VK → Prop} {f : Blt}, x = y → y ∈ blts → bootBuiltins y = some (.builtin id) → y ≠ "__name__" → (y == ("__debug__" : Str)) = false → CallR X (.builtin id) r → PrimC X.K r (bltD f) → PE X (.Call (.Name x p) (e :: es) [] pos) (tE X.K C (.blt f cs)) := fun {y id r f} ex m b n d c pr => by
    subst ex
    exact so_blt (pe_callB c (O.gl hg) (O.blt _ m) b ha.pa n d s1 (s2 pos)) pr
  have keyT : ∀ {y : Str} {id : String} {r : List V → Hp → VK → Prop} {f : Blt}, x = y → y ∈ blts → bootBuiltins y = some (.type id) → y ≠ "__name__" → (y == ("__debug__" : Str)) = false → CallR X (.type id) r → PrimC X.K r (bltD f) → PE X (.Call (.Name x p) (e :: es) [] pos) (tE X.K C (.blt f cs)) := fun {y id r f} ex m b n d c pr => by
    subst ex
    exact so_blt (pe_callTy c (O.gl hg) (O.blt _ m) b ha.pa n d s1 (s2 pos)) pr
  unfold trBlt at h
  split at h
  · rename_i e; cases h; exact keyB e (by decide) PySem.boot_len (by decide) (by decide) cr_len prim_len
  · split at h
    · rename_i e; cases h; exact keyB e (by decide) boot_abs' (by decide) (by decide) call_abs prim_abs
    · split at h
      · rename_i e; cases h; exact keyT e (by decide) boot_int' (by decide) (by decide) call_int1 prim_int
      · split at h
        · rename_i e; cases h; exact keyT e (by decide) boot_tuple' (by decide) (by decide) cr_tupF prim_tuple
        · split at h
          · rename_i e; cases h; exact keyT e (by decide) boot_list' (by decide) (by decide) call_list_of prim_list
          · split at h
            · rename_i e; cases h; exact keyB e (by decide) boot_any' (by decide) (by decide) (cr_any O.calm) prim_any
            · split at h
              · rename_i e; cases h; exact keyB e (by decide) boot_all' (by decide) (by decide) (cr_all O.calm) prim_all
              · split at h
                · rename_i e; cases h; exact keyB e (by decide) boot_isi' (by decide) (by decide) call_isi prim_isinst
                · split at h
                  · rename_i e; cases h; exact keyB e (by decide) boot_sorted' (by decide) (by decide) ((cr_sortD (by have := O.room.un; omega)).or ((cr_sortT_ (by have := O.room.un; omega)).or (cr_sortK O.calm (by have := O.room.un; omega)))) prim_sort
                  · split at h
                    · rename_i e; cases h; exact keyT e (by decide) boot_dict' (by decide) (by decide) (cr_dict O.calm (by have := O.room.un; omega) O.hw) prim_dict
                    · cases h
theorem so_binop (O : Ok X N sc C F k) {a b : Expr} {ca cb : CE} {op : Operator} {o : O2} {pos : Pos} (h : opB op = some o) (ha : PE X a (tE X.K C ca)) (hb : PE X b (tE X.K C cb)) : PE X (.BinOp a op b pos) (tE X.K C (.op2 o ca cb)) := by
  cases op <;> simp only [opB] at h <;> try (cases h; done)
  · cases h; exact so_op2 (fun h1 h2 => pe_op op_addA h1 h2) prim_add ha hb
  · cases h; exact so_op2 (fun h1 h2 => pe_op op_sub h1 h2) prim_sub ha hb
  · cases h; exact so_op2 (fun h1 h2 => pe_op op_mul h1 h2) prim_mul ha hb
  · cases h; exact so_op2 (fun h1 h2 => pe_op op_modN h1 h2) prim_mod ha hb
  · cases h; exact so_op2 (fun h1 h2 => pe_op op_pow h1 h2) prim_pow ha hb
  · cases h; exact so_op2 (fun h1 h2 => pe_op op_fdivN h1 h2) prim_fdiv ha hb
theorem so_compare (O : Ok X N sc C F k) {a b : Expr} {ca cb : CE} {op : CmpOp} {o : O2} {pos : Pos} (h : opC op = some o) (hs : isSetD b = false) (ha : PE X a (tE X.K C ca)) (hb : PE X b (tE X.K C cb)) :
    PE X (.Compare a [op] [b] pos) (tE X.K C (.op2 o ca cb)) ∧ PT X (.Compare a [op] [b] pos) (tT X.K C (.op2 o ca cb)) := by
  cases op <;> simp only [opC] at h <;> cases h
  · exact so_cmpO rfl (op_eqP O.u66) prim_eq hs ha hb
  · exact so_cmpO rfl (op_neP O.u66) prim_ne hs ha hb
  · exact so_cmpO rfl (op_ltA O.u66) (prim_cmp _ _) hs ha hb
  · exact so_cmpO rfl (op_leA O.u66) (prim_cmp _ _) hs ha hb
  · exact so_cmpO rfl (op_gtA O.u66) (prim_cmp _ _) hs ha hb
  · exact so_cmpO rfl (op_geA O.u66) (prim_cmp _ _) hs ha hb
  · exact so_cmpO rfl op_isN prim_is hs ha hb
  · exact so_cmpO rfl op_notN prim_isn hs ha hb
  · exact so_in O hs ha hb
  · exact so_nin O hs ha hb
theorem blk_ok (O : Ok X N sc C F k) {scope : Scope} (h : blkC N (scN sc) scope (ownOf N scope.names) = true) : BlkOk X.N X.env.scope scope (ownOf N scope.names) := by
  have b := blkOk_by h
  rw [O.eN]
  exact ⟨b.kind, b.uniq, b.ix, fun y hy e => by rw [O.names]; exact b.free y hy e, b.own⟩
/-- within the block -/
theorem ok_blk (O : Ok X N sc C F k) {scope : Scope} (hk : scope.kind = .function) (s : Shared) (H : Hp) (Ca : Addr) (cl : List (Str × Addr)) (fp : List Addr) : Ok (X.blk s H scope (compEnvC scope cl Ca X.env) fp) N (relN scope.names sc) C F k ∧ OkW (X.blk s H scope (compEnvC scope cl Ca X.env) fp) scope.names := by
  refine ⟨⟨O.eN, O.nd, ?_, hk, O.calm, rfl, O.room, O.funs, O.blt, O.glo, O.hw⟩, ⟨fun x h => ?_⟩⟩
  · show scope.names.map _ = _
    unfold relN
    refine List.map_congr_left fun ⟨y, z⟩ _ => ?_
    have e1 : (X.env.scope.kind == ScopeKind.function) = true := by rw [O.kind]; rfl
    have e2 : X.env.kindOf y = sc.lookup y := by show X.env.scope.names.lookup _ = _; rw [O.names]
    simp only [e1, e2, Bool.and_true]
  · show (scope.names.lookup x == some .cell) = true
    rw [h]; rfl
theorem so_tg (O : Ok X N sc C F k) (OW : OkW X W) {e : Expr} {t : Tg} (h : trTg N sc W e = some t) : PG X e (gT X.K t) := by
  cases e <;> simp only [trTg] at h <;> try (cases h; done)
  · split at h
    · rename_i hs
      simp only [Option.map_eq_some_iff] at h
      obtain ⟨i, h1, rfl⟩ := h
      exact so_nm O OW h1 hs
    · cases h
  · simp only [Option.map_eq_some_iff] at h
    obtain ⟨is, h1, rfl⟩ := h
    exact so_tp O OW h1
end
end Fi
end

section
/-! FiP: the translation of expressions is right, all in one. Own work. -/
namespace Fi
open PySem PySem.Spec L2
variable [J : HW]
section
variable {N : List Str} {F : List (Str × Nat)} {k : Nat}
structure TrOk (N : List Str) (F : List (Str × Nat)) (k n : Nat) : Prop where
  e : ∀ {X : Cx} {sc : Nms} {C : Ctx} {e : Expr} {c : CE}, Ok X N sc C F k → trE N F n sc e = some c → PE X e (tE X.K C c) ∧ PT X e (tT X.K C c)
  es : ∀ {X : Cx} {sc : Nms} {C : Ctx} {es : List Expr} {cs : CEs}, Ok X N sc C F k → trEs N F n sc es = some cs → PEL X C es cs
  w : ∀ {X : Cx} {sc : Nms} {C : Ctx} {op : BoolOp} {a : Expr} {r : List Expr} {c : CE} {pos : Pos}, Ok X N sc C F k → trW N F n sc op a r = some c → PE X (.BoolOp op (a :: r) pos) (tE X.K C c) ∧ PW X (.BoolOp op (a :: r) pos) (tT X.K C c)
  o : ∀ {X : Cx} {sc : Nms} {C : Ctx} {e : Option Expr} {c : CO}, Ok X N sc C F k → trO N F n sc e = some c → PO X e (tO X.K C c)
  i : ∀ {X : Cx} {sc : Nms} {C : Ctx} {e tg : Expr} {c : IT}, Ok X N sc C F k → trI N F n sc e = some c → PI X tg e (tI X.K C c)
theorem str_beq {x y : Str} (h : (x == y) = true) : x = y := by simpa using h
theorem ifs_ok {X : Cx} {C : Ctx} {ifs : List Expr} {cs : CEs} (h : PEL X C ifs cs) (hl : ifs.length ≤ 1) : PTs X ifs (tTs X.K C cs) := by
  cases h with
  | nil => exact so_ts0
  | cons s e t r =>
    cases r with
    | nil => exact so_ts1 t
    | cons _ _ _ _ => simp at hl
/-- what is no test of its own kind: its value does -/
theorem both {X : Cx} {C : Ctx} {e : Expr} {c : CE} (h : PE X e (tE X.K C c)) (ht : isTst e = false) : PE X e (tE X.K C c) ∧ PT X e (tT X.K C c) := ⟨h, so_test h ht⟩
theorem getD_cases {α : Type} {m : Option α} {d c : α} (h : some (m.getD d) = some c) : m = some c ∨ c = d := by
  cases m with
  | none => cases h; exact .inr rfl
  | some x => cases h; exact .inl rfl
theorem bad_ok {X : Cx} {C : Ctx} {e : Expr} : PE X e (tE X.K C .bad) ∧ PT X e (tT X.K C .bad) := by
  refine ⟨⟨fun pins s σ H Q I ⟨S, E, r, E', _, h, _⟩ => ?_⟩, ⟨fun pins s σ H Q I ⟨S, E, r, E', b, _, h, _⟩ => ?_⟩⟩
  · unfold evE at h; cases h
  · unfold evE at h; cases h
theorem nmSlot_ok {X : Cx} {sc : Nms} {C : Ctx} {e : Expr} {i : Nat} (O : Ok X N sc C F k) (h : nmSlot N sc e = some i) : ∃ x p, e = .Name x p ∧ PE X e (tE X.K C (.var i)) ∧ PE X e (tVar i) := by
  unfold nmSlot at h
  split at h
  · rename_i x p
    split at h
    · cases h
    · rename_i nd
      simp only [Bool.or_eq_true, not_or, Bool.not_eq_true] at nd
      split at h
      · rename_i hv
        exact ⟨x, p, rfl, so_var O h hv nd.1 nd.2, pe_var (by rw [O.eN]; exact slot_ok h) (O.vis hv) nd.1 nd.2⟩
      · cases h
  · cases h
theorem trOk : ∀ n, TrOk N F k n := by
  intro n
  induction n with
  | zero => exact ⟨fun _ h => by simp [trE] at h, fun _ h => by simp [trEs] at h, fun _ h => by simp [trW] at h, fun _ h => by simp [trO] at h, fun _ h => by simp [trI] at h⟩
  | succ n ih =>
    refine ⟨fun {X sc C e c} O h => ?_, fun {X sc C es cs} O h => ?_, fun {X sc C op a r c pos} O h => ?_, fun {X sc C e c} O h => ?_, fun {X sc C e tg c} O h => ?_⟩
    · unfold trE at h
      replace h := getD_cases h
      rcases h with h | rfl
      rotate_left
      · exact bad_ok
      split at h
      · -- a name
        rename_i x p
        split at h
        · cases h
        · rename_i nd
          simp only [Bool.or_eq_true, not_or, Bool.not_eq_true] at nd
          split at h
          · rename_i hv
            simp only [Option.map_eq_some_iff] at h
            obtain ⟨i, hi, rfl⟩ := h
            exact both (so_var O hi hv nd.1 nd.2) rfl
          · split at h
            · rename_i hg
              have hg : sc.lookup x = some .globalImplicit := by simpa using hg
              split at h
              · rename_i t ht
                cases h
                exact both (so_ty O hg ht) rfl
              · cases h
                exact both (so_glo O hg nd.1) rfl
            · cases h
      · -- a constant
        simp only [Option.map_eq_some_iff] at h
        obtain ⟨d, hd, rfl⟩ := h
        exact both (so_con_c hd) rfl
      · -- tuple
        simp only [Option.map_eq_some_iff] at h
        obtain ⟨cs, hc, rfl⟩ := h
        exact both (so_tup (ih.es O hc).pa) rfl
      · simp only [Option.map_eq_some_iff] at h
        obtain ⟨cs, hc, rfl⟩ := h
        exact both (so_lst (ih.es O hc).pa) rfl
      · -- a dict
        rename_i ks vs p
        split at h
        · rename_i em
          simp only [Bool.and_eq_true, List.isEmpty_iff] at em
          obtain ⟨rfl, rfl⟩ := em
          cases h
          exact both so_dct rfl
        · split at h
          · rename_i kk cs hk hc
            split at h
            · rename_i len
              simp only [Bool.and_eq_true, beq_iff_eq, decide_eq_true_eq] at len
              cases h
              have pl := ih.es O hc
              obtain ⟨l1, l2⟩ := keysOf_len hk
              have hl : ks.length = vs.length := by rw [← l1, len.1.1, pl.len]
              refine both (so_dsp len.1.1 (pel_pps hk pl hl) l2 hl ?_ (by rw [← l1]; exact len.2)) rfl
              intro ek
              have := len.1.2
              rw [l1, ek] at this
              simp at this
            · cases h
          · cases h
      · -- operators
        split at h
        · rename_i o ca cb ho ha hb
          cases h
          exact both (so_binop O ho (ih.e O ha).1 (ih.e O hb).1) rfl
        · cases h
      · simp only [Option.map_eq_some_iff] at h
        obtain ⟨ca, ha, rfl⟩ := h
        exact ⟨so_not (ih.e O ha).1, so_notT (ih.e O ha).2⟩
      · simp only [Option.map_eq_some_iff] at h
        obtain ⟨ca, ha, rfl⟩ := h
        exact both (so_neg (ih.e O ha).1) rfl
      · obtain ⟨h1, h2⟩ := ih.w O h
        exact ⟨h1, h2.pt⟩
      · split at h
        · rename_i cc ca cb hc ha hb
          cases h
          exact ⟨so_ifx (ih.e O hc).2 (ih.e O ha).1 (ih.e O hb).1, so_ifxT (ih.e O hc).2 (ih.e O ha).2 (ih.e O hb).2⟩
        · cases h
      · split at h
        · cases h
        · rename_i hs
          have hs := Bool.eq_false_iff.mpr hs
          split at h
          · rename_i o ca cb ho ha hb
            cases h
            exact so_compare O ho hs (ih.e O ha).1 (ih.e O hb).1
          · cases h
      · -- a chain
        rename_i a op op' b c p
        split at h
        · rename_i ords
          simp only [Bool.and_eq_true] at ords
          split at h
          · rename_i o o' ca cb cc h1 h2 ha hb hc
            cases h
            refine so_chain O ords.1 ords.2 ?_ ?_ (ih.e O ha).1 (ih.e O hb).1 (ih.e O hc).1
            · have z := ords.1
              cases op <;> first | (cases z; done) | (cases h1; rfl)
            · have z := ords.2
              cases op' <;> first | (cases z; done) | (cases h2; rfl)
          · cases h
        · cases h
      · -- places and slices
        split at h
        · split at h
          · rename_i ca cl ch ha hl hh
            cases h
            exact both (so_cut (ih.e O ha).1 (ih.o O hl) (ih.o O hh)) rfl
          · cases h
        · split at h
          · rename_i hi
            subst hi
            simp only [Option.map_eq_some_iff] at h
            obtain ⟨ca, ha, rfl⟩ := h
            exact both (so_rev (ih.e O ha).1) rfl
          · cases h
        · split at h
          · cases h
          · rename_i hs
            split at h
            · rename_i ca cb ha hb
              cases h
              exact both (so_idx O.u1 (Bool.eq_false_iff.mpr hs) (ih.e O ha).1 (ih.e O hb).1) rfl
            · cases h
      · -- a call by a name
        rename_i f p args pos
        split at h
        · cases h
        · rename_i nd
          simp only [Bool.or_eq_true, not_or, Bool.not_eq_true, Bool.not_eq_false'] at nd
          have hg : sc.lookup f = some .globalImplicit := by simpa using nd.2
          split at h
          · rename_i cs hc
            have pl := ih.es O hc
            split at h
            · rename_i m hm
              split at h
              · rename_i len
                have len : cs.len = m := by simpa using len
                cases h
                cases args with
                | nil =>
                  cases pl
                  refine both (so_call0 O (by rw [hm, ← len]; rfl) hg nd.1) rfl
                | cons a as =>
                  have hst := pl.star
                  simp only [List.all_cons, Bool.and_eq_true, Bool.not_eq_true'] at hst
                  exact both (so_call O hm hg nd.1 hst.1 hst.2 len pl.pa) rfl
              · cases h
            · split at h
              · cases h
              · rename_i ne
                split at h
                · -- sorted(set(..))
                  rename_i a0 hss
                  simp only [Option.map_eq_some_iff] at h
                  obtain ⟨ca, hca, rfl⟩ := h
                  unfold isSS at hss
                  split at hss
                  · split at hss
                    · rename_i q
                      simp only [Bool.and_eq_true, Bool.not_eq_true', beq_iff_eq] at q
                      cases hss
                      obtain ⟨⟨⟨rfl, rfl⟩, q3⟩, q4⟩ := q
                      exact both (so_sset O hg q3 q4 (ih.e O hca).1) rfl
                    · cases hss
                  · cases hss
                · split at h
                  · rename_i a0 hss
                    simp only [Option.map_eq_some_iff] at h
                    obtain ⟨ca, hca, rfl⟩ := h
                    unfold isLR at hss
                    split at hss
                    · split at hss
                      · rename_i q
                        simp only [Bool.and_eq_true, Bool.not_eq_true', beq_iff_eq] at q
                        cases hss
                        obtain ⟨⟨⟨rfl, rfl⟩, q3⟩, q4⟩ := q
                        exact both (so_lrng1 O hg q3 q4 (ih.e O hca).1) rfl
                      · cases hss
                    · cases hss
                  · split at h
                    · rename_i a0 b0 hss
                      split at h
                      · rename_i ca cb hca hcb
                        cases h
                        unfold isLR2 at hss
                        split at hss
                        · split at hss
                          · rename_i q
                            simp only [Bool.and_eq_true, Bool.not_eq_true', beq_iff_eq] at q
                            cases hss
                            obtain ⟨⟨⟨⟨rfl, rfl⟩, q3⟩, q4⟩, q5⟩ := q
                            exact both (so_lrng2 O hg q3 q4 q5 (ih.e O hca).1 (ih.e O hcb).1) rfl
                          · cases hss
                        · cases hss
                      · cases h
                    · simp only [Option.map_eq_some_iff] at h
                      obtain ⟨b, hb, rfl⟩ := h
                      cases args with
                      | nil => exact absurd rfl ne
                      | cons a as => exact both (so_bltCall O hg hb pl) rfl
          · cases h
      · -- a method
        rename_i o m apos args cpos
        split at h
        · cases h
        · rename_i nd
          simp only [Bool.or_eq_true, not_or, Bool.not_eq_true, Bool.not_eq_false'] at nd
          obtain ⟨hl, hb⟩ := nd
          split at h
          · rename_i cs hc
            have pl := ih.es O hc
            have one : ∀ {q : Bool}, (args.length == 1) = true → ∃ a c, args = [a] ∧ cs = .cons c .nil ∧ isStar a = false ∧ PE X a (tE X.K C c) := fun {q} h1 => by
              have h1 : args.length = 1 := by simpa using h1
              cases pl with
              | nil => simp at h1
              | cons s e t r =>
                cases r with
                | nil => exact ⟨_, _, rfl, rfl, s, e⟩
                | cons _ _ _ _ => simp at h1
            split at h
            · rename_i em
              split at h
              · rename_i h1
                simp only [Option.map_eq_some_iff] at h
                obtain ⟨co, ho, rfl⟩ := h
                obtain ⟨a, c, rfl, rfl, s, _⟩ := one (q := true) h1
                subst em
                exact both (so_join hb s hl (ih.e O ho).1 pl.pa) rfl
              · cases h
            · split at h
              · rename_i em
                split at h
                · rename_i h1
                  simp only [Option.map_eq_some_iff] at h
                  obtain ⟨co, ho, rfl⟩ := h
                  obtain ⟨a, c, rfl, rfl, s, pe⟩ := one (q := true) h1
                  subst em
                  exact both (so_get O.u1 hb s hl (ih.e O ho).1 pe) rfl
                · cases h
              · split at h
                · rename_i x px
                  split at h
                  · cases h
                  · rename_i nx
                    simp only [Bool.or_eq_true, not_or, Bool.not_eq_true, Bool.not_eq_false'] at nx
                    split at h
                    · rename_i i hi
                      split at h
                      · rename_i em
                        split at h
                        · rename_i h1
                          cases h
                          obtain ⟨a, c, rfl, rfl, s, _⟩ := one (q := true) h1
                          subst em
                          exact both (so_append O hi nx.2 nx.1.1 nx.1.2 s hl pl.pa) rfl
                        · cases h
                      · split at h
                        · rename_i em
                          split at h
                          · rename_i h1
                            cases h
                            obtain ⟨a, c, rfl, rfl, s, _⟩ := one (q := true) h1
                            subst em
                            exact both (so_extend O hi nx.2 nx.1.1 nx.1.2 s hl pl.pa) rfl
                          · cases h
                        · split at h
                          · rename_i em
                            split at h
                            · rename_i h0
                              cases h
                              have h0 : args = [] := by simpa using h0
                              subst h0 em
                              exact both (so_pop O hi nx.2 nx.1.1 nx.1.2 hl) rfl
                            · cases h
                          · cases h
                    · cases h
                · cases h
          · cases h
      · -- a comprehension
        rename_i elt tg it ifs as scope p
        split at h
        · rename_i ok
          simp only [Bool.and_eq_true, Bool.not_eq_true'] at ok
          obtain ⟨⟨ha, hset⟩, hblk⟩ := ok
          have ha : as = 0 := by simpa using ha
          subst ha
          split at h
          · rename_i t ci cs c ht hi hcs hc
            split at h
            · rename_i q
              simp only [Bool.and_eq_true, decide_eq_true_eq, List.all_eq_true, List.any_eq_true, beq_iff_eq] at q
              cases h
              have bo := blk_ok O hblk
              have hsl : ∀ i ∈ t.slots, i ∈ (ownOf N scope.names).map (·.2) := fun i hi => by
                obtain ⟨p, hp, e⟩ := q.2 i hi
                exact List.mem_map.mpr ⟨p, hp, e⟩
              have blk := pe_lc (elt := elt) (pos := p) (g := gT X.K t) (tt := tTs X.K C cs) (te := tE X.K C c) (own := ownOf N scope.names) O.calm (by rw [O.eN]; exact O.nd) (ih.i (tg := tg) O hi) bo (fun s H Ca cl fp => so_tg (ok_blk O bo.kind s H Ca cl fp).1 (ok_blk O bo.kind s H Ca cl fp).2 ht) (fun s H Ca cl fp => ifs_ok (ih.es (ok_blk O bo.kind s H Ca cl fp).1 hcs) q.1) (fun s H Ca cl fp => (ih.e (ok_blk O bo.kind s H Ca cl fp).1 hc).1) (fold_ok hset X.env)
              refine both ?_ rfl
              cases hns : nmSlot N sc it with
              | none => exact PE.imp blk fun σ H Q h => cmp_read hsl h
              | some i =>
                obtain ⟨x, px, rfl, hv, hx⟩ := nmSlot_ok O hns
                have blk1 := pe_lc (elt := elt) (pos := p) (g := gT X.K t) (tt := tTs X.K C cs) (te := tE X.K C c) (own := ownOf N scope.names) O.calm (by rw [O.eN]; exact O.nd) (so_seq (tg := tg) hv) bo (fun s H Ca cl fp => so_tg (ok_blk O bo.kind s H Ca cl fp).1 (ok_blk O bo.kind s H Ca cl fp).2 ht) (fun s H Ca cl fp => ifs_ok (ih.es (ok_blk O bo.kind s H Ca cl fp).1 hcs) q.1) (fun s H Ca cl fp => (ih.e (ok_blk O bo.kind s H Ca cl fp).1 hc).1) (fold_ok hset X.env)
                have blk2 := pe_lc (elt := elt) (pos := p) (g := gT X.K t) (tt := tTs X.K C cs) (te := tE X.K C c) (own := ownOf N scope.names) O.calm (by rw [O.eN]; exact O.nd) (pi_keys (tg := tg) hx) bo (fun s H Ca cl fp => so_tg (ok_blk O bo.kind s H Ca cl fp).1 (ok_blk O bo.kind s H Ca cl fp).2 ht) (fun s H Ca cl fp => ifs_ok (ih.es (ok_blk O bo.kind s H Ca cl fp).1 hcs) q.1) (fun s H Ca cl fp => (ih.e (ok_blk O bo.kind s H Ca cl fp).1 hc).1) (fold_ok hset X.env)
                exact PE.imp (PE.or blk1 (pe_lock blk2)) fun σ H Q h => cmpV_read hsl h
            · cases h
          · cases h
        · cases h
      · -- two clauses
        rename_i elt tg it ifs as tg2 it2 ifs2 as2 scope p
        split at h
        · rename_i ok
          simp only [Bool.and_eq_true, Bool.not_eq_true'] at ok
          obtain ⟨⟨⟨⟨ha, ha2⟩, hset⟩, hset2⟩, hblk⟩ := ok
          have ha : as = 0 := by simpa using ha
          have ha2 : as2 = 0 := by simpa using ha2
          subst ha ha2
          split at h
          · rename_i t ci cs t2 ci2 cs2 c ht hi hcs ht2 hi2 hcs2 hc
            split at h
            · rename_i q
              simp only [Bool.and_eq_true, decide_eq_true_eq, List.all_eq_true, List.any_eq_true, beq_iff_eq] at q
              cases h
              have bo := blk_ok O hblk
              have hsl : ∀ i ∈ t.slots, i ∈ (ownOf N scope.names).map (·.2) := fun i hi => by
                obtain ⟨p, hp, e⟩ := q.1.2 i hi
                exact List.mem_map.mpr ⟨p, hp, e⟩
              have hsl2 : ∀ i ∈ t2.slots, i ∈ (ownOf N scope.names).map (·.2) := fun i hi => by
                obtain ⟨p, hp, e⟩ := q.2 i hi
                exact List.mem_map.mpr ⟨p, hp, e⟩
              refine both (PE.imp (pe_lc2 (own := ownOf N scope.names) (vs1 := t2.slots) O.calm (by rw [O.eN]; exact O.nd) (ih.i O hi) bo hsl2 (fun s H Ca cl fp => so_tg (ok_blk O bo.kind s H Ca cl fp).1 (ok_blk O bo.kind s H Ca cl fp).2 ht) (fun s H Ca cl fp => ifs_ok (ih.es (ok_blk O bo.kind s H Ca cl fp).1 hcs) q.1.1.1)
                (fun s H Ca cl fp => ih.i (ok_blk O bo.kind s H Ca cl fp).1 hi2) (fun s H Ca cl fp => so_tg (ok_blk O bo.kind s H Ca cl fp).1 (ok_blk O bo.kind s H Ca cl fp).2 ht2) (fun s H Ca cl fp => ifs_ok (ih.es (ok_blk O bo.kind s H Ca cl fp).1 hcs2) q.1.1.2)
                (fun s H Ca cl fp => (ih.e (ok_blk O bo.kind s H Ca cl fp).1 hc).1) (fold_ok hset X.env) (fun env => fold_ok hset2 env)) fun σ H Q h => cmp2_read hsl hsl2 h) rfl
            · cases h
          · cases h
        · cases h
      · cases h
    · unfold trEs at h
      split at h
      · cases h; exact .nil
      · split at h
        · cases h
        · rename_i hs
          split at h
          · rename_i c cs hc hcs
            cases h
            obtain ⟨h1, h2⟩ := ih.e O hc
            exact .cons (Bool.eq_false_iff.mpr hs) h1 h2 (ih.es O hcs)
          · cases h
    · unfold trW at h
      split at h
      · obtain ⟨h1, h2⟩ := ih.e O h
        cases op with
        | And => exact ⟨pe_one h1, pw_and1 h2⟩
        | Or => exact ⟨pe_one h1, pw_or1 h2⟩
      · split at h
        · rename_i ca cb ha hb
          cases h
          obtain ⟨h1, h2⟩ := ih.e O ha
          obtain ⟨h3, h4⟩ := ih.w (pos := pos) O hb
          cases op with
          | And => exact ⟨so_and h1 h3, so_andW h2 h4⟩
          | Or => exact ⟨so_or h1 h3, so_orW h2 h4⟩
        · cases h
    · unfold trO at h
      split at h
      · cases h; exact so_no
      · simp only [Option.map_eq_some_iff] at h
        obtain ⟨c', hc, rfl⟩ := h
        exact so_so (ih.e O hc).1
    · unfold trI at h
      split at h
      · rename_i hr
        split at h
        · rename_i f p a pos
          have hf : f = ("range" : Str) := by simpa [isRng] using hr
          subst hf
          split at h
          · rename_i q
            simp only [Bool.and_eq_true, Bool.not_eq_true', beq_iff_eq] at q
            simp only [Option.map_eq_some_iff] at h
            obtain ⟨ca, ha, rfl⟩ := h
            exact so_rng1 O q.1 q.2 (ih.e O ha).1
          · cases h
        · rename_i f p a b pos
          have hf : f = ("range" : Str) := by simpa [isRng] using hr
          subst hf
          split at h
          · rename_i q
            simp only [Bool.and_eq_true, Bool.not_eq_true', beq_iff_eq] at q
            split at h
            · rename_i ca cb ha hb
              cases h
              exact so_rng2 O q.1.1 q.1.2 q.2 (ih.e O ha).1 (ih.e O hb).1
            · cases h
          · cases h
        · cases h
      · simp only [Option.map_eq_some_iff] at h
        obtain ⟨ca, ha, rfl⟩ := h
        exact so_seq (ih.e O ha).1
end
end Fi
end

section
/-! FiQ: the translation of statements. Own work. -/
namespace Fi
open PySem PySem.Spec L2
variable [J : HW]
/-- does the store take its comprehension's variables' places -/
def swB (sc : Nms) (e : Expr) (y : Str) (py : Pos) : Bool := match e with
  | .ListComp _ _ scope pos => (sc.lookup y == some .local) && (py.line == pos.line) && !(scope.names.any fun (n, k) => n == y && (k == .local || k == .cell))
  | _ => false
def parSlots (N : List Str) (sc : Nms) : List Expr → List Expr → Option (List Nat)
  | [.Name x px, .Name y py], [a, b] => (match slot N x, slot N y with
    | some i, some j => if (sc.lookup x == some .local) && (sc.lookup y == some .local) && decide (i ≠ j) && (py.line == px.line) && !(foldedForSure 8 a && foldedForSure 8 b) && !(constantsAlone 8 a && constantsAlone 8 b) && !isStar a && !isStar b then some [i, j] else none
    | _, _ => none)
  | [.Name x px, .Name y py, .Name z pz], [a, b, c] => (match slot N x, slot N y, slot N z with
    | some i, some j, some k => if (sc.lookup x == some .local) && (sc.lookup y == some .local) && (sc.lookup z == some .local) && decide (i ≠ j) && decide (i ≠ k) && decide (j ≠ k) && (py.line == px.line) && (pz.line == px.line) && !(foldedForSure 8 a && (foldedForSure 8 b && foldedForSure 8 c)) && !(constantsAlone 8 a && (constantsAlone 8 b && constantsAlone 8 c)) && !isStar a && !isStar b && !isStar c then some [i, j, k] else none
    | _, _, _ => none)
  | _, _ => none
/-- is one of the targets no plain local name -/
def someCell (sc : Nms) (es : List Expr) : Bool := es.any fun e => match e with
  | .Name x _ => !(sc.lookup x == some .local)
  | _ => false
def augO : Operator → Option O2
  | .Add => some .add | .Sub => some .sub | .Mult => some .mul
  | _ => none
def augD : Operator → Option O2
  | .Add => some .add | .Sub => some .sub
  | _ => none
section
variable (N : List Str) (F : List (Str × Nat)) (sc W : Nms)
def exF : Nat := 60
mutual
def trS : Nat → Stmt → Option CS
  | 0, _ => none
  | n + 1, s => some (Option.getD (match s with
    | .Pass _ => some .pas
    | .Break _ => some .brk
    | .Continue _ => some .cnt
    | .Expr e _ => if isCmp e then none else (trE N F exF sc e).map .ex
    | .Return none _ => some .retN
    | .Return (some e) _ => (trE N F exF sc e).map .ret
    | .If c a b _ => (match trE N F exF sc c, trB n a, trB n b with
      | some cc, some ca, some cb => some (.ite cc ca cb)
      | _, _, _ => none)
    | .While c b [] _ => (match trE N F exF sc c, trB n b with
      | some cc, some cb => some (.whl cc cb)
      | _, _ => none)
    | .For t it b [] _ => if isSetD it then none else (match trTg N sc W t, trI N F exF sc it, trB n b with
      | some ct, some ci, some cb => some (.for ct ci cb)
      | _, _, _ => none)
    | .Assign [t] e _ => (match t with
      | .Name x _ => if sto sc W x then (match slot N x, trE N F exF sc e with
        | some i, some c => some (.asg (.nm i) c)
        | _, _ => none) else none
      | .Tuple es _ _ => (match e with
        | .Tuple vs _ _ => (match parSlots N sc es vs with
          | some is => (trEs N F exF sc vs).map (.par is)
          | none => if !(es.length == 2 || es.length == 3) || someCell sc es then (match nmSlots N sc W es, trEs N F exF sc vs with
            | some is, some cs => if is.length ≤ 100 then some (.par is cs) else none
            | _, _ => none) else none)
        | _ => if isCmp e then none else if isTupE e then none else (match nmSlots N sc W es, trE N F exF sc e with
          | some is, some c => some (.asg (.tp is) c)
          | _, _ => none))
      | .Subscript (.Name x _) k _ => if isCmp e || isSlice k || (x == ("__debug__" : Str)) || (x == ("__classdict__" : Str)) || !vis sc x then none else (match slot N x, trE N F exF sc k, trE N F exF sc e with
        | some i, some ck, some ce => some (.setIx i ck ce)
        | _, _, _ => none)
      | _ => none)
    | .AugAssign (.Name x _) op e _ => if sto sc W x then (match slot N x, augO op, trE N F exF sc e with
      | some i, some o, some c => some (.aug i o c)
      | _, _, _ => none) else none
    | .AugAssign (.Subscript (.Name x _) k _) op e _ => if isSlice k || (x == ("__debug__" : Str)) || (x == ("__classdict__" : Str)) || !vis sc x then none else (match slot N x, augD op, trE N F exF sc k, trE N F exF sc e with
      | some i, some o, some ck, some ce => some (.augIx i ck o ce)
      | _, _, _, _ => none)
    | _ => none) .bad)
def trB : Nat → List Stmt → Option CB
  | 0, _ => none
  | n + 1, ss => match ss with
    | [] => some .nil
    | s :: r => (match trS n s, trB n r with
      | some c, some cs => some (.cons c cs)
      | _, _ => none)
end
end
section
variable {N : List Str} {F : List (Str × Nat)} {sc W : Nms} {k : Nat} {X : Cx} {C : Ctx}
theorem sw_is (O : Ok X N sc C F k) {e : Expr} {y : Str} {py : Pos} {l : Nat} (hc : isCmp e = true) (hl : ∃ a b c d, e = .ListComp a b c d) : swapsWith e (some (.Name y py)) l X.env = pure (swB sc e y py) := by
  obtain ⟨elt, gs, scope, pos, rfl⟩ := hl
  have hb : X.env.blockKind = .function := by unfold Env.blockKind; rw [O.kind]; rfl
  have hk : X.env.kindOf y = sc.lookup y := by show X.env.scope.names.lookup y = _; rw [O.names]
  unfold swapsWith swB
  simp only [hb, hk, Expr.pos]
  show (pure _ : Sem Bool) = pure _
  congr 1
theorem ps_none {s : Stmt} {c : CS} (h : ∀ E, evS C c E = none) : PS X s (tS X.K C c) := ⟨fun pins st σ H D I ⟨S, E, o, _, e, _⟩ => by rw [h E] at e; cases e⟩
theorem asg_bad {i : Nat} : ∀ E, evS C (.asg (.nm i) .bad) E = none := fun E => by simp only [evS, evE]
/-- name = [..], the places exchanged -/
theorem lcAsg (O : Ok X N sc C F k) {n : Nat} {e : Expr} {c : CE} {i : Nat} {y : Str} {py spos : Pos} (hc : isCmp e = true) (h : trE N F n sc e = some c) (hy : slot N y = some i) (hyl : sc.lookup y = some .local) (hsw : swapsWith e (some (.Name y py)) spos.line X.env = pure true) :
    PS X (.Assign [.Name y py] e spos) (tS X.K C (.asg (.nm i) c)) := by
  have hNy : X.N[i]? = some y := by rw [O.eN]; exact slot_ok hy
  have hl' : X.env.scope.names.lookup y = some .local := by rw [O.names]; exact hyl
  cases n with
  | zero => simp [trE] at h
  | succ n =>
    have ih := trOk (N := N) (F := F) (k := k) n
    unfold trE at h
    replace h := getD_cases h
    rcases h with h | rfl
    rotate_left
    · exact ps_none asg_bad
    split at h <;> first | (cases hc; done) | skip
    · rename_i elt tg it ifs as scope p
      split at h
      · rename_i ok
        simp only [Bool.and_eq_true, Bool.not_eq_true'] at ok
        obtain ⟨⟨ha, hset⟩, hblk⟩ := ok
        have ha : as = 0 := by simpa using ha
        subst ha
        split at h
        · rename_i t ci cs c' ht hi hcs hc'
          split at h
          · rename_i q
            simp only [Bool.and_eq_true, decide_eq_true_eq, List.all_eq_true, List.any_eq_true, beq_iff_eq] at q
            cases h
            have bo := blk_ok O hblk
            have hsl : ∀ i ∈ t.slots, i ∈ (ownOf N scope.names).map (·.2) := fun i hi => by
              obtain ⟨p, hp, e⟩ := q.2 i hi
              exact List.mem_map.mpr ⟨p, hp, e⟩
            have blk := ps_setLc (elt := elt) (pos := p) (spos := spos) (py := py) (g := gT X.K t) (tt := tTs X.K C cs) (te := tE X.K C c') (own := ownOf N scope.names) O.calm (by rw [O.eN]; exact O.nd) hNy hl' hsw (ih.i (tg := tg) O hi) bo (fun s H Ca cl fp => so_tg (ok_blk O bo.kind s H Ca cl fp).1 (ok_blk O bo.kind s H Ca cl fp).2 ht) (fun s H Ca cl fp => ifs_ok (ih.es (ok_blk O bo.kind s H Ca cl fp).1 hcs) q.1) (fun s H Ca cl fp => (ih.e (ok_blk O bo.kind s H Ca cl fp).1 hc').1) (fold_ok hset X.env)
            cases hns : nmSlot N sc it with
            | none => exact PS.imp blk fun D σ H h => cmp_read hsl (asg_read h)
            | some i' =>
              obtain ⟨x, px, rfl, hv, hx⟩ := nmSlot_ok O hns
              have blk1 := ps_setLc (elt := elt) (pos := p) (spos := spos) (py := py) (g := gT X.K t) (tt := tTs X.K C cs) (te := tE X.K C c') (own := ownOf N scope.names) O.calm (by rw [O.eN]; exact O.nd) hNy hl' hsw (so_seq (tg := tg) hv) bo (fun s H Ca cl fp => so_tg (ok_blk O bo.kind s H Ca cl fp).1 (ok_blk O bo.kind s H Ca cl fp).2 ht) (fun s H Ca cl fp => ifs_ok (ih.es (ok_blk O bo.kind s H Ca cl fp).1 hcs) q.1) (fun s H Ca cl fp => (ih.e (ok_blk O bo.kind s H Ca cl fp).1 hc').1) (fold_ok hset X.env)
              have blk2 := ps_setLc (elt := elt) (pos := p) (spos := spos) (py := py) (g := gT X.K t) (tt := tTs X.K C cs) (te := tE X.K C c') (own := ownOf N scope.names) O.calm (by rw [O.eN]; exact O.nd) hNy hl' hsw (pi_keys (tg := tg) hx) bo (fun s H Ca cl fp => so_tg (ok_blk O bo.kind s H Ca cl fp).1 (ok_blk O bo.kind s H Ca cl fp).2 ht) (fun s H Ca cl fp => ifs_ok (ih.es (ok_blk O bo.kind s H Ca cl fp).1 hcs) q.1) (fun s H Ca cl fp => (ih.e (ok_blk O bo.kind s H Ca cl fp).1 hc').1) (fold_ok hset X.env)
              exact PS.imp (PS.or blk1 (ps_lock blk2)) fun D σ H h => cmpV_read hsl (asg_read h)
          · cases h
        · cases h
      · cases h
    · rename_i elt tg it ifs as tg2 it2 ifs2 as2 scope p
      split at h
      · rename_i ok
        simp only [Bool.and_eq_true, Bool.not_eq_true'] at ok
        obtain ⟨⟨⟨⟨ha, ha2⟩, hset⟩, hset2⟩, hblk⟩ := ok
        have ha : as = 0 := by simpa using ha
        have ha2 : as2 = 0 := by simpa using ha2
        subst ha ha2
        split at h
        · rename_i t ci cs t2 ci2 cs2 c' ht hi hcs ht2 hi2 hcs2 hc'
          split at h
          · rename_i q
            simp only [Bool.and_eq_true, decide_eq_true_eq, List.all_eq_true, List.any_eq_true, beq_iff_eq] at q
            cases h
            have bo := blk_ok O hblk
            have hsl : ∀ i ∈ t.slots, i ∈ (ownOf N scope.names).map (·.2) := fun i hi => by
              obtain ⟨p, hp, e⟩ := q.1.2 i hi
              exact List.mem_map.mpr ⟨p, hp, e⟩
            have hsl2 : ∀ i ∈ t2.slots, i ∈ (ownOf N scope.names).map (·.2) := fun i hi => by
              obtain ⟨p, hp, e⟩ := q.2 i hi
              exact List.mem_map.mpr ⟨p, hp, e⟩
            exact PS.imp (ps_setLc2 (own := ownOf N scope.names) (vs1 := t2.slots) O.calm (by rw [O.eN]; exact O.nd) hNy hl' hsw (ih.i O hi) bo hsl2 (fun s H Ca cl fp => so_tg (ok_blk O bo.kind s H Ca cl fp).1 (ok_blk O bo.kind s H Ca cl fp).2 ht) (fun s H Ca cl fp => ifs_ok (ih.es (ok_blk O bo.kind s H Ca cl fp).1 hcs) q.1.1.1)
                (fun s H Ca cl fp => ih.i (ok_blk O bo.kind s H Ca cl fp).1 hi2) (fun s H Ca cl fp => so_tg (ok_blk O bo.kind s H Ca cl fp).1 (ok_blk O bo.kind s H Ca cl fp).2 ht2) (fun s H Ca cl fp => ifs_ok (ih.es (ok_blk O bo.kind s H Ca cl fp).1 hcs2) q.1.1.2)
                (fun s H Ca cl fp => (ih.e (ok_blk O bo.kind s H Ca cl fp).1 hc').1) (fold_ok hset X.env) (fun env => fold_ok hset2 env)) fun D σ H h => cmp2_read hsl hsl2 (asg_read h)
          · cases h
        · cases h
      · cases h
    · cases h
theorem so_asgAny (O : Ok X N sc C F k) (OW : OkW X W) {n : Nat} {e : Expr} {c : CE} {i : Nat} {y : Str} {py spos : Pos} (h : trE N F n sc e = some c) (hy : slot N y = some i) (hs : sto sc W y = true) : PS X (.Assign [.Name y py] e spos) (tS X.K C (.asg (.nm i) c)) := by
  have he := ((trOk (N := N) (F := F) (k := k) n).e O h).1
  cases hc : isCmp e with
  | false => exact so_asg O OW hy hs hc he
  | true =>
    by_cases hcb : c = .bad
    · subst hcb; exact ps_none asg_bad
    have hl : ∃ a b c d, e = .ListComp a b c d := by
      cases n with
      | zero => simp [trE] at h
      | succ n =>
        cases e <;> first | (cases hc; done) | exact ⟨_, _, _, _, rfl⟩ | (simp [trE] at h; exact absurd h.symm hcb)
    have q := sw_is O (y := y) (py := py) (l := spos.line) hc hl
    cases hb : swB sc e y py with
    | true =>
      rw [hb] at q
      refine lcAsg O hc h hy ?_ q
      obtain ⟨a, b, s, d, rfl⟩ := hl
      simp only [swB, Bool.and_eq_true, beq_iff_eq] at hb
      exact hb.1.1
    | false =>
      rw [hb] at q
      obtain ⟨h1, h2⟩ := O.loc OW hs
      exact PS.imp (ps_set (i := i) (by rw [O.eN]; exact O.nd) (by rw [O.eN]; exact slot_ok hy) h1 he q h2) fun D σ H q => asg_read q
theorem par_ok (O : Ok X N sc C F k) {es vs : List Expr} {is : List Nat} {cs : CEs} {k1 k2 : Nat} {p1 p2 pos : Pos} (h : parSlots N sc es vs = some is) (ha : PA X vs (tFs X.K C cs)) : PS X (.Assign [.Tuple es k1 p1] (.Tuple vs k2 p2) pos) (tS X.K C (.par is cs)) := by
  unfold parSlots at h
  split at h
  · split at h
    · rename_i i j hx hy
      split at h
      · rename_i q
        simp only [Bool.and_eq_true, decide_eq_true_eq, Bool.not_eq_true', beq_iff_eq] at q
        obtain ⟨⟨⟨⟨⟨⟨⟨q1, q2⟩, q3⟩, q4⟩, q5⟩, q6⟩, q7⟩, q8⟩ := q
        cases h
        exact so_par2 O hx hy q1 q2 q3 q4 q5 q6 q7 q8 ha
      · cases h
    · cases h
  · split at h
    · rename_i i j l hx hy hz
      split at h
      · rename_i q
        simp only [Bool.and_eq_true, decide_eq_true_eq, Bool.not_eq_true', beq_iff_eq] at q
        obtain ⟨⟨⟨⟨⟨⟨⟨⟨⟨⟨⟨⟨q1, q2⟩, q3⟩, q4⟩, q5⟩, q6⟩, q7⟩, q8⟩, q9⟩, q10⟩, q11⟩, q12⟩, q13⟩ := q
        cases h
        exact so_par3 O hx hy hz q1 q2 q3 q4 q5 q6 q7 q8 q9 q10 q11 q12 q13 ha
      · cases h
    · cases h
  · cases h
theorem swp_none (O : Ok X N sc C F k) {es vs : List Expr} {k1 k2 : Nat} {p1 p2 : Pos} (h : (!(es.length == 2 || es.length == 3) || someCell sc es) = true) : swappedStores [.Tuple es k1 p1] (.Tuple vs k2 p2) X.env = pure none := by
  rw [Bool.or_eq_true] at h
  rcases h with h | h
  · exact no_stores4 (by simpa using h)
  · unfold someCell at h
    rw [List.any_eq_true] at h
    obtain ⟨e, he, hx⟩ := h
    cases e <;> simp only [Bool.not_eq_true', beq_eq_false_iff_ne] at hx <;> first | (cases hx; done) | skip
    exact no_storesN he (by show X.env.scope.names.lookup _ ≠ _; rw [O.names]; exact hx)
structure TsOk (N : List Str) (F : List (Str × Nat)) (sc W : Nms) (k n : Nat) : Prop where
  s : ∀ {X : Cx} {C : Ctx} {s : Stmt} {c : CS}, Ok X N sc C F k → OkW X W → trS N F sc W n s = some c → PS X s (tS X.K C c)
  b : ∀ {X : Cx} {C : Ctx} {ss : List Stmt} {c : CB}, Ok X N sc C F k → OkW X W → trB N F sc W n ss = some c → PSs X ss (tB X.K C c)
theorem iadd_o : OpR X (inplaceOp .Add) (fun x y H Q => rI0 (fun i j => .int (i + j)) x y H Q ∨ (∃ i j, x = .str i ∧ y = .str j ∧ i.length + j.length ≤ sizeLine ∧ Q (.str (i ++ j)) H)) := iop_add.or iop_add_str
theorem prim_iadd {K : PySem.W.Frag} : Prim2 K (fun x y H Q => rI0 (fun i j => .int (i + j)) x y H Q ∨ (∃ i j, x = .str i ∧ y = .str j ∧ i.length + j.length ≤ sizeLine ∧ Q (.str (i ++ j)) H)) iaddD := by
  intro S H x y dx dy p Q e hx hy hp q
  unfold iaddD at hp
  split at hp
  · cases hp
    exact .inl ⟨_, _, hx.int, hy.int, sc_of e q (.int _)⟩
  · split at hp
    · rename_i hl
      cases hp
      refine .inr ⟨_, _, hx.str, hy.str, ?_, ?_⟩
      · rw [strOf_length, strOf_length, ← big_eq]; exact hl
      · rw [strOf_append]; exact sc_of e q (.str _)
    · cases hp
  · cases hp
theorem prim_iaddI {K : PySem.W.Frag} : Prim2 K rAdd iaddI := by
  intro S H x y dx dy p Q e hx hy hp q
  unfold iaddI at hp
  split at hp
  · cases hp
    exact ⟨_, _, hx.int, hy.int, sc_of e q (.int _)⟩
  · cases hp
theorem prim_isubI {K : PySem.W.Frag} : Prim2 K rSub subD := by
  intro S H x y dx dy p Q e hx hy hp q
  unfold subD at hp
  split at hp
  · cases hp
    exact ⟨_, _, hx.int, hy.int, sc_of e q (.int _)⟩
  · cases hp
theorem tsOk : ∀ n, TsOk N F sc W k n := by
  intro n
  induction n with
  | zero => exact ⟨fun _ _ h => by simp [trS] at h, fun _ _ h => by simp [trB] at h⟩
  | succ n ih =>
    have te := trOk (N := N) (F := F) (k := k) exF
    refine ⟨fun {X C s c} O OW h => ?_, fun {X C ss c} O OW h => ?_⟩
    · unfold trS at h
      replace h := getD_cases h
      rcases h with h | rfl
      rotate_left
      · exact ps_none fun E => by simp only [evS]
      split at h
      · cases h; exact so_pas
      · cases h; exact so_brk
      · cases h; exact so_cnt
      · split at h
        · cases h
        · rename_i hc
          simp only [Option.map_eq_some_iff] at h
          obtain ⟨c', hc', rfl⟩ := h
          exact so_ex (Bool.eq_false_iff.mpr hc) (te.e O hc').1
      · cases h; exact so_retN
      · simp only [Option.map_eq_some_iff] at h
        obtain ⟨c', hc', rfl⟩ := h
        exact so_ret (te.e O hc').1
      · split at h
        · rename_i cc ca cb hc ha hb
          cases h
          exact so_ite (te.e O hc).2 (ih.b O OW ha) (ih.b O OW hb)
        · cases h
      · split at h
        · rename_i cc cb hc hb
          cases h
          exact so_whl O (te.e O hc).2 (ih.b O OW hb)
        · cases h
      · split at h
        · cases h
        · rename_i hset
          split at h
          · rename_i ct ci cb ht hi hb
            cases h
            exact so_for O (Bool.eq_false_iff.mpr hset) (te.i O hi) (so_tg O OW ht) (ih.b O OW hb)
          · cases h
      · -- assignments
        split at h
        · split at h
          · rename_i hs
            split at h
            · rename_i i c' hi hc'
              cases h
              exact so_asgAny O OW hc' hi hs
            · cases h
          · cases h
        · split at h
          · rename_i vs k2 p2
            split at h
            · rename_i is hp
              simp only [Option.map_eq_some_iff] at h
              obtain ⟨cs, hcs, rfl⟩ := h
              exact par_ok O hp (te.es O hcs).paF
            · split at h
              · rename_i hn
                split at h
                · rename_i is cs his hcs
                  split at h
                  · rename_i hl
                    cases h
                    exact so_parT O OW his hl (swp_none O hn) (te.es O hcs).paF
                  · cases h
                · cases h
              · cases h
          · split at h
            · cases h
            · rename_i hc
              split at h
              · cases h
              · rename_i ht
                split at h
                · rename_i is c' his hc'
                  cases h
                  exact so_asgT O OW his (Bool.eq_false_iff.mpr hc) (no_stores (Bool.eq_false_iff.mpr ht)) (te.e O hc').1
                · cases h
        · split at h
          · cases h
          · rename_i q
            simp only [Bool.or_eq_true, not_or, Bool.not_eq_true, Bool.not_eq_false'] at q
            obtain ⟨⟨⟨⟨q1, q2⟩, q3⟩, q4⟩, q5⟩ := q
            split at h
            · rename_i i ck ce hi hk he
              cases h
              exact so_setIx O O.u1 hi q5 q3 q4 q2 q1 (te.e O hk).1 (te.e O he).1
            · cases h
        · cases h
      · split at h
        · rename_i hs
          split at h
          · rename_i i o c' hi ho hc'
            cases h
            have he := (te.e O hc').1
            rename_i op _ _ _ _ _
            cases op <;> simp only [augO] at ho <;> try (cases ho; done)
            · cases ho; exact so_aug O OW hi hs iadd_o prim_iadd he
            · cases ho; exact so_aug O OW hi hs iop_sub prim_sub he
            · cases ho; exact so_aug O OW hi hs iop_mul prim_mul he
          · cases h
        · cases h
      · split at h
        · cases h
        · rename_i q
          simp only [Bool.or_eq_true, not_or, Bool.not_eq_true, Bool.not_eq_false'] at q
          obtain ⟨⟨⟨q1, q2⟩, q3⟩, q4⟩ := q
          split at h
          · rename_i i o ck ce hi ho hk he
            cases h
            rename_i op _ _ _ _ _ _
            have hk := (te.e O hk).1
            have he := (te.e O he).1
            cases op <;> simp only [augD] at ho <;> try (cases ho; done)
            · cases ho; exact so_augIx O O.u1 hi q4 q2 q3 q1 in_add prim_iaddI hk he
            · cases ho; exact so_augIx O O.u1 hi q4 q2 q3 q1 in_sub prim_isubI hk he
          · cases h
      · cases h
    · unfold trB at h
      split at h
      · cases h; exact so_bnil
      · split at h
        · rename_i c' cs hc hcs
          cases h
          exact so_bcons (ih.s O OW hc) (ih.b O OW hcs)
        · cases h
end
end Fi
end

section
/-! FiR: defs. Own work. -/
namespace Fi
open PySem PySem.Spec L2

/-- a def: how many parameters, how many names, which parameters are the caller's containers, its code -/
structure Fn where
  np : Nat
  nl : Nat
  io : List Bool
  code : CB
def entry (fn : Fn) (as : List (Bool × D)) : Env :=
  { sl := (as.map fun a => if a.1 then Sl.ow a.2 else .sh a.2) ++ List.replicate (fn.nl - fn.np) .un, ro := (List.range fn.np).filter fun i => fn.io.getD i false }
def giveD (E : Env) : Rs → Option Rs
  | .sh d => some (.sh d)
  | .ow d => some (.ow d)
  | .pk i => if E.ro.contains i then none else (match E.get i with
    | .ow d => some (.ow d)
    | .sh d => some (.sh d)
    | _ => none)
def finsD (E : Env) (n : Nat) : Option (List Sl) :=
  if E.ro.all (fun i => match E.get i with | .ow _ => true | .sh _ => true | _ => false) then some ((List.range n).map E.get) else none
section
variable (T : Str → Option Fn) (G : Str → Option D)
noncomputable def run : Nat → Str → List (Bool × D) → Option (Rs × List Sl)
  | 0, _, _ => none
  | n + 1, f, as => match T f with
    | none => none
    | some fn => if as.length = fn.np ∧ as.map (·.1) = fn.io ∧ fn.np ≤ fn.nl then
        (match evB { call := run n, io := fun g => ((T g).map (·.io)).getD [], glo := G } fn.code (entry fn as) with
        | some (.rt r E) => (match giveD E r, finsD E fn.np with
          | some r', some ss => some (r', ss)
          | _, _ => none)
        | some (.nx E) => (match finsD E fn.np with
          | some ss => some (.sh .non, ss)
          | none => none)
        | _ => none)
      else none
noncomputable def ctxOf (n : Nat) : Ctx := { call := run T G n, io := fun g => ((T g).map (·.io)).getD [], glo := G }
end

variable [J : HW]
/-- the table's defs stand in the module -/
structure TabOk (P : Program) (w : World) (K : PySem.W.Frag) (mg : Str → Option Value) (base : Heap) (dd : Str → Addr × FuncData × List Str) (T : Str → Option Fn) (G : Str → Option D) (F : List (Str × Nat)) : Prop where
  tab : ∀ f m, F.lookup f = some m → ∃ fn, T f = some fn ∧ fn.np = m
  fn : ∀ f fn, T f = some fn → ∃ (st : Stmt) (N : List Str) (m : Nat), mg f = some (.ref (dd f).1) ∧ Fun K f f st (dd f).1 (dd f).2.1 ∧ FnScope N (dd f).2.2 (defScope st) ∧ Binds K (dd f).2.1 (dd f).2.2 [] ∧ (dd f).2.2.length = fn.np ∧ N.length = fn.nl ∧
    trB N F (defScope st).names (defScope st).names m (defBody st) = some fn.code
  blt : ∀ x ∈ blts, mg x = none
  glo : ∀ x d, G x = some d → ∃ v u, mg x = some u ∧ RelV v u ∧ Rep K (fun _ => none) d v
  hw : J.hs = fun k => k.hash w
section
variable {P : Program} {w : World} {K : PySem.W.Frag} {mg : Str → Option Value} {base : Heap} {dd : Str → Addr × FuncData × List Str} {T : Str → Option Fn} {G : Str → Option D} {F : List (Str × Nat)}
theorem getD_app {α : Type} (l r : List α) (i : Nat) (d : α) : (l ++ r).getD i d = if i < l.length then l.getD i d else r.getD (i - l.length) d := by
  simp only [List.getD_eq_getElem?_getD, List.getElem?_append]
  split <;> rfl
theorem entry_get {fn : Fn} {as : List (Bool × D)} (i : Nat) : (entry fn as).get i = match as[i]? with | some (true, d) => .ow d | some (false, d) => .sh d | none => .un := by
  unfold entry Env.get
  simp only
  rw [getD_app]
  by_cases h : i < as.length
  · rw [if_pos (by simpa using h)]
    rw [List.getD_eq_getElem?_getD, List.getElem?_map, List.getElem?_eq_getElem h]
    obtain ⟨b, d⟩ := as[i]
    cases b <;> rfl
  · rw [if_neg (by simpa using h), List.getElem?_eq_none (by omega)]
    simp only [List.getD_eq_getElem?_getD, List.getElem?_replicate]
    split <;> rfl
theorem start_get {N : List Str} {vs : List V} {i : Nat} {v : V} (h : vs[i]? = some v) : (L2.start N vs)[i]? = some (some v) := by
  unfold L2.start
  have hi := (List.getElem?_eq_some_iff.mp h).1
  rw [List.getElem?_append_left (by simpa using hi), List.getElem?_map, h]; rfl
theorem entry_ok {S H : Hp} {N : List Str} {vs : List V} {fn : Fn} {as : List (Bool × D)} (a : ArgsOk K S H vs as) (hN : N.length = fn.nl) (hl : as.length = fn.np) (hio : as.map (·.1) = fn.io) (hle : fn.np ≤ fn.nl) : EnvOk K S H (L2.start N vs) (entry fn as) := by
  have vl := a.len
  have ow : ∀ i d, (entry fn as).get i = .ow d ∨ (entry fn as).get i = .lk d → as[i]? = some (true, d) := fun i d h => by
    rw [entry_get] at h
    split at h
    · rename_i d' e
      rcases h with h | h <;> cases h
      exact e
    · rcases h with h | h <;> cases h
    · rcases h with h | h <;> cases h
  refine ⟨a.sub, ?_, fun i d h => ?_, fun i d h => ?_, fun i j b hi hj ei ej => ?_, fun i hi => ?_⟩
  · unfold L2.start entry
    simp only [List.length_append, List.length_map, List.length_replicate]
    omega
  · rw [entry_get] at h
    split at h
    · cases h
    · rename_i d' e
      cases h
      obtain ⟨v, hv, r⟩ := a.sh i d e
      exact ⟨v, start_get hv, r⟩
    · cases h
  · obtain ⟨b, hb, s, o⟩ := a.ow i d (ow i d h)
    exact ⟨b, start_get hb, s, o⟩
  · obtain ⟨d, hi⟩ := hi
    obtain ⟨e, hj⟩ := hj
    have h1 := ow i d hi
    have h2 := ow j e hj
    obtain ⟨c, hc, _, _⟩ := a.ow i d h1
    obtain ⟨c', hc', _, _⟩ := a.ow j e h2
    rw [start_get hc] at ei; cases ei
    rw [start_get hc'] at ej; cases ej
    exact a.inj i j d e b h1 h2 hc hc'
  · unfold entry at hi
    simp only [List.mem_filter, List.mem_range] at hi
    obtain ⟨h1, h2⟩ := hi
    rw [← hio, List.getD_eq_getElem?_getD, List.getElem?_map] at h2
    cases z : as[i]? with
    | none => rw [z] at h2; cases h2
    | some p =>
      obtain ⟨b, d⟩ := p
      rw [z] at h2
      have h2 : b = true := h2
      subst h2
      obtain ⟨c, hc, _, _⟩ := a.ow i d z
      exact ⟨c, start_get hc, .inl ⟨d, .inl (by rw [entry_get, z])⟩⟩
theorem ro_mem {fn : Fn} {as : List (Bool × D)} {i : Nat} {d : D} (hl : as.length = fn.np) (hio : as.map (·.1) = fn.io) (h : as[i]? = some (true, d)) : i ∈ (entry fn as).ro := by
  unfold entry
  simp only [List.mem_filter, List.mem_range]
  have hi := (List.getElem?_eq_some_iff.mp h).1
  refine ⟨by omega, ?_⟩
  rw [← hio, List.getD_eq_getElem?_getD, List.getElem?_map, h]; rfl
/-- the body's end is the call's -/
theorem call_end {S H S' H' : Hp} {N : List Str} {vs : List V} {fn : Fn} {as : List (Bool × D)} {σ' : L2.St} {E' : Env} {v : V} {r' : Rs} {ss : List Sl} (a : ArgsOk K S H vs as) (hN : N.length = fn.nl) (hl : as.length = fn.np) (hio : as.map (·.1) = fn.io)
    (p : Post K S H (L2.start N vs) (entry fn as) S' H' σ' E') (hf : finsD E' fn.np = some ss) (g : GiveOk K S' H' H v r') : CallPost K S H vs as S' H' v r' ss := by
  unfold finsD at hf
  split at hf
  · rename_i hall
    cases hf
    rw [List.all_eq_true] at hall
    have ownL : ∀ b, Own (L2.start N vs) (entry fn as) b → Lent vs as b := fun b ⟨i, ⟨d, hd⟩, e⟩ => by
      have h1 : as[i]? = some (true, d) := by
        rw [entry_get] at hd
        split at hd
        · rename_i d' e'
          rcases hd with hd | hd <;> cases hd
          exact e'
        · rcases hd with hd | hd <;> cases hd
        · rcases hd with hd | hd <;> cases hd
      obtain ⟨c, hc, _, _⟩ := a.ow i d h1
      rw [start_get hc] at e; cases e
      exact ⟨i, d, h1, hc⟩
    refine ⟨p.ok.sub, p.grow, fun b o n e => p.frame b o (fun z => n (ownL b z)) e, fun b o n e s => p.keepS b o (fun z => n (ownL b z)) e s, p.dom, by simp [hl], fun i d b h1 h2 => ?_, g⟩
    have hro := ro_mem hl hio h1
    have hi : i < fn.np := by rw [← hl]; exact (List.getElem?_eq_some_iff.mp h1).1
    refine ⟨E'.get i, by rw [List.getElem?_map, List.getElem?_range hi]; rfl, ?_⟩
    have hro' : i ∈ E'.ro := by rw [p.roE]; exact hro
    have es : σ'[i]? = some (some (.ref b)) := by rw [p.rof i hro]; exact start_get h2
    have q := hall i hro'
    obtain ⟨c, ec, z⟩ := p.ok.ro i hro'
    rw [es] at ec; cases ec
    cases gt : E'.get i with
    | un => rw [gt] at q; cases q
    | lk _ => rw [gt] at q; cases q
    | ow d' =>
      obtain ⟨c, ec, s, o⟩ := p.ok.ow i d' (.inl gt)
      rw [es] at ec; cases ec
      exact .ow s o
    | sh d' =>
      obtain ⟨u, eu, r⟩ := p.ok.sh i d' gt
      rw [es] at eu; cases eu
      refine .sh r (z.resolve_left fun ⟨d2, h⟩ => ?_)
      rw [gt] at h
      rcases h with h | h <;> cases h
  · cases hf
theorem give_ok {S H S' H' : Hp} {N : List Str} {vs : List V} {fn : Fn} {as : List (Bool × D)} {σ' : L2.St} {E' : Env} {v : V} {r r' : Rs} (a : ArgsOk K S H vs as) (hl : as.length = fn.np) (hio : as.map (·.1) = fn.io)
    (p : Post K S H (L2.start N vs) (entry fn as) S' H' σ' E') (h : ResOk K S' H' H σ' E' v r) (hg : giveD E' r = some r') : GiveOk K S' H' H v r' := by
  cases h with
  | sh rv => cases hg; exact .sh rv
  | ow e n s o _ => cases hg; exact .ow e n s o
  | @pk i es =>
    unfold giveD at hg
    simp only at hg
    split at hg
    · cases hg
    · rename_i nro
      have nro : i ∉ E'.ro := by simpa using nro
      split at hg
      · rename_i d g
        cases hg
        obtain ⟨b, eb, s, o⟩ := p.ok.ow i d (.inl g)
        rw [es] at eb; cases eb
        refine .ow rfl ?_ s o
        rcases p.own b ⟨i, ⟨d, .inl g⟩, es⟩ with z | z
        · -- a container of the caller's
          exfalso
          obtain ⟨j, ⟨d2, hd⟩, ej⟩ := z
          have h1 : as[j]? = some (true, d2) := by
            rw [entry_get] at hd
            split at hd
            · rename_i d' e'
              rcases hd with hd | hd <;> cases hd
              exact e'
            · rcases hd with hd | hd <;> cases hd
            · rcases hd with hd | hd <;> cases hd
          have hro := ro_mem hl hio h1
          have hro' : j ∈ E'.ro := by rw [p.roE]; exact hro
          have ej' : σ'[j]? = some (some (.ref b)) := by rw [p.rof j hro]; exact ej
          obtain ⟨c, ec, q⟩ := p.ok.ro j hro'
          rw [ej'] at ec; cases ec
          rcases q with q | q
          · exact nro (by rw [p.ok.inj i j b ⟨d, .inl g⟩ q es ej']; exact hro')
          · exact q s
        · exact z
      · rename_i d g
        cases hg
        obtain ⟨u, eu, r⟩ := p.ok.sh i d g
        rw [es] at eu; cases eu
        exact .sh r
      · cases hg
theorem run_ok (tb : TabOk P w K mg base dd T G F) : ∀ n f fn, T f = some fn → mg f = some (.ref (dd f).1) ∧ PySem.W.keepIn K (.ref (dd f).1) = true ∧ Binds K (dd f).2.1 (dd f).2.2 [] ∧ (dd f).2.2.length = fn.np ∧ FnOk P w K mg base CX0 n (dd f).1 (dd f).2.1 (dd f).2.2 (spD K (run T G n f) fn.np) := by
  intro n
  induction n with
  | zero =>
    intro f fn hf
    obtain ⟨st, N, m, h1, h2, h3, h4, h5, h6, h7⟩ := tb.fn f fn hf
    refine ⟨h1, h2.kp, h4, h5, ⟨fun vs H Q E h => by rw [h.1, h5], fun A outer s H args us vs Q E hr e0 hb r h => ?_⟩⟩
    obtain ⟨_, S, as, rr, ss, _, hrun, _⟩ := h
    cases hrun
  | succ n ih =>
    intro f fn hf
    obtain ⟨st, N, m, h1, h2, h3, h4, h5, h6, h7⟩ := tb.fn f fn hf
    refine ⟨h1, h2.kp, h4, h5, ?_⟩
    refine h2.ok h3 (fun vs H Q E h => by rw [h.1, h5]) fun cdv A outer s H vs Q E hr h => ?_
    obtain ⟨hvl, S, as, rr, ss, ha, hrun, q⟩ := h
    refine ⟨tB K (ctxOf T G n) fn.code, ?_, ?_⟩
    · refine (tsOk (N := N) (F := F) (sc := (defScope st).names) (W := (defScope st).names) (k := n) m).b ⟨rfl, h3.nd, rfl, h3.kind, rfl, rfl, hr, fun g mm hg => ?_, tb.blt, tb.glo, tb.hw⟩ ⟨fun x _ => rfl⟩ h7
      obtain ⟨fn', hT, hnp⟩ := tb.tab g mm hg
      obtain ⟨g1, g2, g3, g4, g5⟩ := ih g fn' hT
      rw [hnp] at g5
      exact ⟨_, _, _, g1, g2, g3, g5⟩
    · simp only [run, hf] at hrun
      split at hrun
      · rename_i c
        obtain ⟨c1, c2, c3⟩ := c
        have I := entry_ok (N := N) ha h6 c1 c2 c3
        split at hrun
        · rename_i r E1 e1
          split at hrun
          · rename_i r' ss' hg hf'
            cases hrun
            exact ⟨S, entry fn as, _, I, e1, fun v σ' H' S' p hres => q v H' S' (call_end ha h6 c1 c2 p hf' (give_ok ha c1 c2 p hres hg))⟩
          · cases hrun
        · rename_i E1 e1
          split at hrun
          · rename_i ss' hf'
            cases hrun
            exact ⟨S, entry fn as, _, I, e1, fun σ' H' S' p => q .non H' S' (call_end ha h6 c1 c2 p hf' (.sh .non))⟩
          · cases hrun
        · cases hrun
      · cases hrun
end
end Fi
end

section
/-! FiEnd: the table from what the head has written; the law's promise from its data function. Own work. -/
namespace Fi
open PySem PySem.Spec L2
/-- a def as the head has written it -/
def Stand (K : PySem.W.Frag) (f : Str) (st : Stmt) : Prop := ∃ (fa : Addr) (oc : Value) (od an : Option Addr) (sl : Array (Option Value)) (kV dc pm cd ct : Value), PySem.W.nsIn K mainGlobals f = some (some (.ref fa)) ∧
  K.lookup fa = some ⟨oc, od, .func (PySem.W.fnOf f f (defArgs st) (defBody st) (defScope st) .none kV dc pm an cd ct), sl⟩ ∧ PySem.W.codeIn K cd f = true ∧ PySem.W.keepIn K (.ref fa) = true
theorem stand_mk {K : PySem.W.Frag} {f : Str} {st : Stmt} {fa : Addr} {oc : Value} {od an : Option Addr} {sl : Array (Option Value)} {kV dc pm cd ct : Value} (a : PySem.W.nsIn K mainGlobals f = some (some (.ref fa)))
    (b : K.lookup fa = some ⟨oc, od, .func (PySem.W.fnOf f f (defArgs st) (defBody st) (defScope st) .none kV dc pm an cd ct), sl⟩) (c : PySem.W.codeIn K cd f = true) (d : PySem.W.keepIn K (.ref fa) = true) : Stand K f st := ⟨fa, oc, od, an, sl, kV, dc, pm, cd, ct, a, b, c, d⟩
/-- a def of the table, as the law's walk needs it -/
def DefIs (K : PySem.W.Frag) (mg : Str → Option Value) (F : List (Str × Nat)) (f : Str) (fn : Fn) (d : Addr × FuncData × List Str) : Prop :=
  ∃ (st : Stmt) (N : List Str) (m : Nat), mg f = some (.ref d.1) ∧ Fun K f f st d.1 d.2.1 ∧ FnScope N d.2.2 (defScope st) ∧ (∀ us : List Value, us.length = d.2.2.length → bindArgs d.2.1 ⟨us, []⟩ = pure (d.2.2.zip us)) ∧ d.2.2.length = fn.np ∧ N.length = fn.nl ∧
    trB N F (defScope st).names (defScope st).names m (defBody st) = some fn.code
section
variable {K : PySem.W.Frag} {h : Heap} {mg : Str → Option Value} {F : List (Str × Nat)} {f : Str} {st : Stmt} {N ps : List Str} {m : Nat} {fn : Fn}
theorem Stand.is (X : K.In h) (G : h.Ns mainGlobals mg) (s : Stand K f st) (sc : FnScope N ps (defScope st))
    (b : ∀ (kV doc pm : Value) (an : Option Addr) (cdv ct : Value) (us : List Value), us.length = ps.length → bindArgs (PySem.W.fnOf f f (defArgs st) (defBody st) (defScope st) .none kV doc pm an cdv ct) ⟨us, []⟩ = pure (ps.zip us))
    (tr : trB N F (defScope st).names (defScope st).names m (defBody st) = some fn.code) (h1 : ps.length = fn.np) (h2 : N.length = fn.nl) : ∃ d, DefIs K mg F f fn d ∧ d.2.2 = ps := by
  obtain ⟨fa, oc, od, an, sl, kV, dc, pm, cd, ct, e1, e2, e3, e4⟩ := s
  have FF := fun_mk (st := st) e2 e3 e4
  exact ⟨(fa, _, ps), ⟨st, N, m, PySem.W.mg_of X G e1, FF, sc, fun us hl => b _ _ _ _ _ _ us hl, h1, h2, tr⟩, rfl⟩
/-- the table's defs stand; ps the parameters of each -/
inductive DefsAre (K : PySem.W.Frag) (mg : Str → Option Value) (F : List (Str × Nat)) : List (Str × Fn) → List (List Str) → Prop
  | nil : DefsAre K mg F [] []
  | cons {f : Str} {fn : Fn} {r : List (Str × Fn)} {ps : List Str} {pr : List (List Str)} : (∃ d, DefIs K mg F f fn d ∧ d.2.2 = ps) → DefsAre K mg F r pr → DefsAre K mg F ((f, fn) :: r) (ps :: pr)
theorem DefsAre.get {tab : List (Str × Fn)} {pp : List (List Str)} (d : DefsAre K mg F tab pp) : ∀ {f : Str} {fn : Fn}, tab.lookup f = some fn → ∃ d ps, DefIs K mg F f fn d ∧ d.2.2 = ps ∧ ((tab.map (·.1)).zip pp).lookup f = some ps := by
  induction d with
  | nil => intro f fn h; cases h
  | @cons g gn r ps pr d _ ih =>
    intro f fn h
    rw [List.lookup_cons] at h
    rw [List.map_cons, List.zip_cons_cons, List.lookup_cons]
    cases hb : f == g with
    | true =>
      rw [hb] at h
      cases h
      have e : f = g := by simpa using hb
      subst e
      obtain ⟨d, h1, h2⟩ := d
      exact ⟨d, ps, h1, h2, rfl⟩
    | false =>
      rw [hb] at h
      exact ih h
theorem lookup_np {tab : List (Str × Fn)} : ∀ {f : Str} {m : Nat}, (tab.map fun p => (p.1, p.2.np)).lookup f = some m → ∃ fn, tab.lookup f = some fn ∧ fn.np = m := by
  induction tab with
  | nil => intro f m h; cases h
  | cons p r ih =>
    obtain ⟨g, gn⟩ := p
    intro f m h
    rw [List.map_cons, List.lookup_cons] at h
    rw [List.lookup_cons]
    cases hb : f == g with
    | true => rw [hb] at h; cases h; exact ⟨gn, rfl, rfl⟩
    | false => rw [hb] at h; exact ih h
theorem tab_ok [J : HW] {tab : List (Str × Fn)} {pp : List (List Str)} (d : DefsAre K mg (tab.map fun p => (p.1, p.2.np)) tab pp) (z : ∀ x ∈ blts, mg x = none) {G : List (Str × D)} (g : ∀ x d, G.lookup x = some d → ∃ v u, mg x = some u ∧ RelV v u ∧ Rep K (fun _ => none) d v) :
    ∃ dd : Str → Addr × FuncData × List Str, (∀ f ps, ((tab.map (·.1)).zip pp).lookup f = some ps → ∀ fn, tab.lookup f = some fn → (dd f).2.2 = ps) ∧ (∀ f fn, tab.lookup f = some fn → DefIs K mg (tab.map fun p => (p.1, p.2.np)) f fn (dd f)) ∧ ∀ (P : Program) (w : World) (base : Heap), J.hs = (fun k => k.hash w) → TabOk P w K mg base dd (fun f => tab.lookup f) (fun x => G.lookup x) (tab.map fun p => (p.1, p.2.np)) := by
  have ex : ∀ f, ∃ x : Addr × FuncData × List Str, ∀ fn, tab.lookup f = some fn → DefIs K mg (tab.map fun p => (p.1, p.2.np)) f fn x ∧ ((tab.map (·.1)).zip pp).lookup f = some x.2.2 := fun f => by
    cases z : tab.lookup f with
    | none => exact ⟨(0, (PySem.W.fnOf f f (defArgs (.Pass ⟨0, 0, 0, 0⟩)) [] (defScope (.Pass ⟨0, 0, 0, 0⟩)) .none .none .none .none none .none .none), []), fun fn h => by cases h⟩
    | some fn =>
      obtain ⟨d, ps, h1, h2, h3⟩ := d.get z
      exact ⟨d, fun fn' h => by cases h; exact ⟨h1, by rw [h2]; exact h3⟩⟩
  obtain ⟨dd, hdd⟩ := Classical.axiomOfChoice ex
  refine ⟨dd, fun f ps h fn hf => ?_, fun f fn h => (hdd f fn h).1, fun P w base hw => ⟨fun f m h => lookup_np h, fun f fn h => ?_, z, g, hw⟩⟩
  rotate_left
  · obtain ⟨st, N, m, h1, h2, h3, h4, h5⟩ := (hdd f fn h).1
    exact ⟨st, N, m, h1, h2, h3, Binds.all h4, h5⟩
  have := (hdd f fn hf).2
  rw [h] at this
  cases this; rfl
/-- the law's promise -/
def spL (K : PySem.W.Frag) : Sp := fun vs H Q _ => ∃ (a : Addr) (ns : List Int), vs = [.ref a] ∧ SqL K H a (ns.map V.int) ∧ ns.length ≤ 63 ∧ ∀ H', Q (.bl true) H'
/-- the rows of texts -/
def txtsV : List Value → Option (List Txt)
  | [] => some []
  | .str x _ :: r => (txtsV r).map (x.cps.toList :: ·)
  | _ => none
theorem txts_vals : ∀ {its : List Value} {ts : List Txt}, txtsV its = some ts → Vals (ts.map fun x => V.str (strOf x)) its
  | [], _, h => by unfold txtsV at h; cases h; exact .nil
  | .str x t :: r, _, h => by
    unfold txtsV at h
    rw [Option.map_eq_some_iff] at h
    obtain ⟨ts, h, rfl⟩ := h
    exact .cons ⟨t, rfl⟩ (txts_vals h)
  | .none :: _, _, h | .ellipsis :: _, _, h | .notImplemented :: _, _, h | .bool _ :: _, _, h | .int _ _ :: _, _, h | .float _ _ :: _, _, h | .bytes _ _ :: _, _, h | .type _ :: _, _, h | .builtin _ :: _, _, h | .ref _ :: _, _, h => by unfold txtsV at h; cases h
/-- a constant of the program's own -/
def GloIs (K : PySem.W.Frag) (x : Str) (d : D) : Prop := (∃ (i : Int) (t : Tok), d = .int i ∧ PySem.W.nsIn K mainGlobals x = some (some (.int i t))) ∨
  ∃ (a : Addr) (its : Array Value) (n : Nat) (sl : Array (Option Value)) (ts : List Txt), d = .tup (ts.map .str) ∧ PySem.W.nsIn K mainGlobals x = some (some (.ref a)) ∧ K.lookup a = some ⟨.type "tuple", none, .seq its n, sl⟩ ∧ its.size ≤ sizeLine ∧ txtsV its.toList = some ts
theorem glo_int_mk {K : PySem.W.Frag} {x : Str} {i : Int} {t : Tok} (a : PySem.W.nsIn K mainGlobals x = some (some (.int i t))) : GloIs K x (.int i) := .inl ⟨i, t, rfl, a⟩
theorem glo_tup_mk {K : PySem.W.Frag} {x : Str} {ds : List D} {a : Addr} {its : Array Value} {n : Nat} {sl : Array (Option Value)} (ts : List Txt) (hd : ds = ts.map .str) (e1 : PySem.W.nsIn K mainGlobals x = some (some (.ref a)))
    (e2 : K.lookup a = some ⟨.type "tuple", none, .seq its n, sl⟩) (e3 : its.size ≤ sizeLine) (e4 : txtsV its.toList = some ts) : GloIs K x (.tup ds) := .inr ⟨a, its, n, sl, ts, by rw [hd], e1, e2, e3, e4⟩
def GloAre (K : PySem.W.Frag) (mg : Str → Option Value) (G : List (Str × D)) : Prop := ∀ [J : HW], ∀ x d, G.lookup x = some d → ∃ v u, mg x = some u ∧ RelV v u ∧ Rep K (fun _ => none) d v
theorem GloAre.nil {K : PySem.W.Frag} {mg : Str → Option Value} : GloAre K mg [] := fun x d h => by cases h
theorem GloAre.cons {K : PySem.W.Frag} {h : Heap} {mg : Str → Option Value} {G : List (Str × D)} {x : Str} {d : D} (X : K.In h) (N : h.Ns mainGlobals mg) (g : GloIs K x d) (r : GloAre K mg G) : GloAre K mg ((x, d) :: G) := fun y e q => by
  rw [List.lookup_cons] at q
  split at q
  · rename_i hy
    have hy : y = x := by simpa using hy
    subst hy
    cases q
    rcases g with ⟨i, t, rfl, g⟩ | ⟨a, its, n, sl, ts, rfl, g, k, z, ht⟩
    · exact ⟨.int i, _, PySem.W.mg_of X N g, ⟨t, rfl⟩, .int i⟩
    · refine ⟨.ref a, _, PySem.W.mg_of X N g, rfl, .tup (.inr ⟨_, its, n, k, rfl, rfl, rfl, z, txts_vals ht⟩) ?_⟩
      clear ht
      induction ts with
      | nil => exact .nil
      | cons t ts ih => exact .cons (.str t) ih
  · exact r y e q
theorem law_end {l : PySem.W.OpenLaw} {w : World} {fa : Addr} {tab : List (Str × Fn)} {pp : List (List Str)} {G : List (Str × D)} (d : DefsAre K mg (tab.map fun p => (p.1, p.2.np)) tab pp) (z : ∀ x ∈ blts, mg x = none) (g : GloAre K mg G) {n : Nat}
    (hfa : mg ("law" : Str) = some (.ref fa)) (ht : tab.lookup ("law" : Str) = some fn) (hnp : fn.np = 1) (hps : ((tab.map (·.1)).zip pp).lookup ("law" : Str) = some [("script" : Str)])
    (run1 : ∀ ns : List Int, ns.length ≤ 63 → ∃ ss, run (fun f => tab.lookup f) (fun x => G.lookup x) n ("law" : Str) [(false, .scr ns)] = some (.sh (.bl true), ss)) :
    ∃ fd : FuncData, (∀ (s : Shared) (u : Value), BindsTo s fd ⟨[u], []⟩ [(("script" : Str), u)]) ∧ ∀ base : Heap, K.In base → base.Ns mainGlobals mg → FnOk l.prog w K mg base CX0 n fa fd [("script" : Str)] (spL K) := by
  letI J : HW := ⟨fun k => k.hash w⟩
  obtain ⟨dd, h0, h00, tb⟩ := tab_ok (J := J) d z g
  have e0 := h0 _ _ hps _ ht
  obtain ⟨st, N, m, h1, h2, h3, h4, h5, h6, h7⟩ := h00 _ _ ht
  rw [hfa] at h1
  have e1 : (dd ("law" : Str)).1 = fa := by cases h1; rfl
  refine ⟨(dd ("law" : Str)).2.1, fun s u => ?_, fun base _ _ => ?_⟩
  · have b := h4 [u] (by rw [e0]; rfl)
    rw [e0] at b
    exact .of_eq b
  · obtain ⟨_, _, _, _, F5⟩ := run_ok (tb l.prog w base rfl) n _ fn ht
    rw [e0, e1] at F5
    refine F5.imp fun vs H Q E ⟨a, ns, e, hS, hl, q⟩ => ?_
    subst e
    obtain ⟨ss, hr⟩ := run1 ns hl
    refine ⟨by rw [hnp]; rfl, H, [(false, .scr ns)], _, ss, ⟨.refl _, rfl, fun i d h => ?_, fun i d h => ?_, fun i j d e b h => ?_⟩, hr, fun v H' S' cp => ?_⟩
    · cases i with
      | zero => cases h; exact ⟨_, rfl, .scr hS⟩
      | succ i => simp at h
    · cases i with
      | zero => cases h
      | succ i => simp at h
    · cases i with
      | zero => cases h
      | succ i => simp at h
    · have g := cp.give
      cases g with
      | sh r => cases r; exact q H'
end
end Fi
end

section
/-! FiV: what code computes, as lemmas for use. Own work. -/
namespace Fi
open PySem L2
mutual
/-- data without truth values, dicts and the like -/
def Pure : D → Bool
  | .non => true
  | .int _ => true
  | .str _ => true
  | .tup xs => Pures xs
  | .lst xs => Pures xs
  | _ => false
def Pures : List D → Bool
  | [] => true
  | x :: r => Pure x && Pures r
end
mutual
def dep : D → Nat
  | .tup xs => deps xs + 1
  | .lst xs => deps xs + 1
  | _ => 0
def deps : List D → Nat
  | [] => 0
  | x :: r => max (dep x) (deps r)
end
mutual
theorem py_pure : ∀ {d : D}, Pure d = true → ∃ p, d.py = some p
  | .non, _ => ⟨_, rfl⟩
  | .int _, _ => ⟨_, rfl⟩
  | .str _, _ => ⟨_, rfl⟩
  | .tup xs, h => by
    unfold Pure at h
    obtain ⟨ps, e⟩ := pys_pure h
    exact ⟨.tuple ps, by unfold D.py; rw [e]; rfl⟩
  | .lst xs, h => by
    unfold Pure at h
    obtain ⟨ps, e⟩ := pys_pure h
    exact ⟨.list ps, by unfold D.py; rw [e]; rfl⟩
  | .bl _, h => by cases h
  | .dct _ _, h => by cases h
  | .set _, h => by cases h
  | .scr _, h => by cases h
  | .ty _, h => by cases h
theorem pys_pure : ∀ {ds : List D}, Pures ds = true → ∃ ps, D.pys ds = some ps
  | [], _ => ⟨[], rfl⟩
  | d :: ds, h => by
    unfold Pures at h
    simp only [Bool.and_eq_true] at h
    obtain ⟨p, e⟩ := py_pure h.1
    obtain ⟨ps, es⟩ := pys_pure h.2
    exact ⟨p :: ps, by unfold D.pys; rw [e, es]⟩
end
mutual
theorem depth_dep : ∀ {d : D} {p : PyData}, d.py = some p → p.depth ≤ dep d
  | .non, _, h => by cases h; simp [PyData.depth]
  | .bl _, _, h => by cases h; simp [PyData.depth]
  | .int _, _, h => by cases h; simp [PyData.depth]
  | .str _, _, h => by cases h; simp [PyData.depth]
  | .tup xs, _, h => by
    unfold D.py at h
    cases z : D.pys xs with
    | none => rw [z] at h; cases h
    | some ps => rw [z] at h; cases h; have := depths_dep z; simp only [PyData.depth, dep]; omega
  | .lst xs, _, h => by
    unfold D.py at h
    cases z : D.pys xs with
    | none => rw [z] at h; cases h
    | some ps => rw [z] at h; cases h; have := depths_dep z; simp only [PyData.depth, dep]; omega
theorem depths_dep : ∀ {ds : List D} {ps : List PyData}, D.pys ds = some ps → PyData.depthAll ps ≤ deps ds
  | [], _, h => by cases h; simp [PyData.depthAll]
  | d :: ds, _, h => by
    unfold D.pys at h
    cases z : d.py with
    | none => rw [z] at h; cases h
    | some p =>
      cases y : D.pys ds with
      | none => rw [z, y] at h; cases h
      | some qs =>
        rw [z, y] at h; cases h
        have h1 := depth_dep z
        have h2 := depths_dep y
        simp only [PyData.depthAll, deps]
        omega
end
mutual
theorem eqv_iff : ∀ {a b : D} {p q : PyData}, Pure a = true → Pure b = true → a.py = some p → b.py = some q → (PyData.eqv p q = true ↔ a = b)
  | .non, b, p, q, _, hb, ha, hq => by
    cases ha
    cases b <;> simp [Pure] at hb <;> (unfold D.py at hq; first | (cases hq; simp [PyData.eqv]; done) | (simp only [Option.map_eq_some_iff] at hq; obtain ⟨_, _, rfl⟩ := hq; simp [PyData.eqv]))
  | .int i, b, p, q, _, hb, ha, hq => by
    cases ha
    cases b <;> simp [Pure] at hb <;> (unfold D.py at hq; first | (cases hq; simp [PyData.eqv]; done) | (simp only [Option.map_eq_some_iff] at hq; obtain ⟨_, _, rfl⟩ := hq; simp [PyData.eqv]))
  | .str x, b, p, q, _, hb, ha, hq => by
    cases ha
    cases b <;> simp [Pure] at hb <;> (unfold D.py at hq; first | (cases hq; simp [PyData.eqv]; done) | (simp only [Option.map_eq_some_iff] at hq; obtain ⟨_, _, rfl⟩ := hq; simp [PyData.eqv]))
  | .tup xs, b, p, q, h, hb, ha, hq => by
    unfold Pure at h
    unfold D.py at ha
    simp only [Option.map_eq_some_iff] at ha
    obtain ⟨ps, e, rfl⟩ := ha
    cases b <;> simp [Pure] at hb <;> (unfold D.py at hq; first | (cases hq; simp [PyData.eqv]; done) | (simp only [Option.map_eq_some_iff] at hq; obtain ⟨qs, e', rfl⟩ := hq; simp only [PyData.eqv]; first | (rw [eqvs_iff h hb e e']; simp; done) | simp))
  | .lst xs, b, p, q, h, hb, ha, hq => by
    unfold Pure at h
    unfold D.py at ha
    simp only [Option.map_eq_some_iff] at ha
    obtain ⟨ps, e, rfl⟩ := ha
    cases b <;> simp [Pure] at hb <;> (unfold D.py at hq; first | (cases hq; simp [PyData.eqv]; done) | (simp only [Option.map_eq_some_iff] at hq; obtain ⟨qs, e', rfl⟩ := hq; simp only [PyData.eqv]; first | (rw [eqvs_iff h hb e e']; simp; done) | simp))
  | .bl _, _, _, _, h, _, _, _ => by cases h
  | .dct _ _, _, _, _, h, _, _, _ => by cases h
  | .set _, _, _, _, h, _, _, _ => by cases h
  | .scr _, _, _, _, h, _, _, _ => by cases h
  | .ty _, _, _, _, h, _, _, _ => by cases h
theorem eqvs_iff : ∀ {a b : List D} {p q : List PyData}, Pures a = true → Pures b = true → D.pys a = some p → D.pys b = some q → (PyData.eqvAll p q = true ↔ a = b)
  | [], [], _, _, _, _, ha, hb => by cases ha; cases hb; simp [PyData.eqvAll]
  | [], y :: ys, _, _, _, _, ha, hb => by
    cases ha
    unfold D.pys at hb
    split at hb
    · cases hb; simp [PyData.eqvAll]
    · cases hb
  | x :: xs, [], _, _, _, _, ha, hb => by
    cases hb
    unfold D.pys at ha
    split at ha
    · cases ha; simp [PyData.eqvAll]
    · cases ha
  | x :: xs, y :: ys, _, _, h1, h2, ha, hb => by
    unfold Pures at h1 h2
    simp only [Bool.and_eq_true] at h1 h2
    unfold D.pys at ha hb
    split at ha
    · rename_i p ps e1 e2
      cases ha
      split at hb
      · rename_i q qs e3 e4
        cases hb
        simp only [PyData.eqvAll, Bool.and_eq_true, eqv_iff h1.1 h2.1 e1 e3, eqvs_iff h1.2 h2.2 e2 e4, List.cons.injEq]
      · cases hb
    · cases ha
end
open Classical in
theorem eqv_pure {a b : D} (ha : Pure a = true) (hb : Pure b = true) (hd : min (dep a) (dep b) ≤ 64) : a.eqv b = some (decide (a = b)) := by
  obtain ⟨p, e⟩ := py_pure ha
  obtain ⟨q, e'⟩ := py_pure hb
  unfold D.eqv
  rw [e, e']
  simp only
  have h1 := depth_dep e
  have h2 := depth_dep e'
  rw [if_pos (by omega)]
  congr 1
  rw [Bool.eq_iff_iff, eqv_iff ha hb e e', decide_eq_true_iff]
end Fi
end

section
set_option maxRecDepth 100000
/-! FiW: runs, and the laws' own helpers: draws, next, pick. Own work. -/
namespace Fi
open PySem L2
theorem dk_ss (a b : Txt) : (DKey.s a == DKey.s b) = decide (a = b) := by
  by_cases h : a = b <;> simp [h]
theorem dk_ii (a b : Int) : (DKey.i a == DKey.i b) = decide (a = b) := by
  by_cases h : a = b <;> simp [h]
theorem dk_si (a : Txt) (b : Int) : (DKey.s a == DKey.i b) = false := by simp
theorem dk_is (a : Int) (b : Txt) : (DKey.i a == DKey.s b) = false := by simp
local macro_rules | `(tactic| walk_at "fi") => `(tactic| simp [evB, evS, evE, evEs, evO, evT, evI, Env.get, Env.put, Env.vw, Env.rd, Env.tk, Env.tks, Env.free, Rs.fz, op2D, addD, subD, mulD, fdivD, modD, powD, cmpA, ordD, Sl.nlk, isD, iopD, iaddD, inopD, iaddI, op1D, PR.rs, D.truth, D.len, ixD, ix, partD, cutD, revD, lenB, absB, intB, tupleB, listB, anyB, allB, isinstB, bltD, joinB, getB, mthD, mthTy, appendB, extendB, popB, mutD, mutTy, setD, kget, kput, D.key, DKey.ok, tyNames, D.tyName, tySub, lock, unlock, lkFree, seqD, puts, bindT, Tg.slots, wipeE, back, argsOf, lent, lentOk, Ar.pass, behind, dk_ss, dk_ii, dk_si, dk_is, bigLine, ownOk, mapOut, turnF, dictAt, lockVar, hide, unhide, bls, inD, D.isNon, List.lookup])
local macro_rules | `(tactic| walk_at "fi*") => `(tactic| simp [evB, evS, evE, evEs, evO, evT, evI, Env.get, Env.put, Env.vw, Env.rd, Env.tk, Env.tks, Env.free, Rs.fz, op2D, addD, subD, mulD, fdivD, modD, powD, cmpA, ordD, Sl.nlk, isD, iopD, iaddD, inopD, iaddI, op1D, PR.rs, D.truth, D.len, ixD, ix, partD, cutD, revD, lenB, absB, intB, tupleB, listB, anyB, allB, isinstB, bltD, joinB, getB, mthD, mthTy, appendB, extendB, popB, mutD, mutTy, setD, kget, kput, D.key, DKey.ok, tyNames, D.tyName, tySub, lock, unlock, lkFree, seqD, puts, bindT, Tg.slots, wipeE, back, argsOf, lent, lentOk, Ar.pass, behind, dk_ss, dk_ii, dk_si, dk_is, bigLine, ownOk, mapOut, turnF, dictAt, lockVar, hide, unhide, bls, inD, D.isNon, List.lookup, *])
section
variable {T : Str → Option Fn} {G : Str → Option D}
theorem run_of {fn : Fn} {f : Str} {as : List (Bool × D)} {n : Nat} {r r' : Rs} {E0 E : Env} {ss : List Sl} (h : T f = some fn) (h0 : entry fn as = E0) (h1 : (decide (as.length = fn.np) && decide (as.map (·.1) = fn.io) && decide (fn.np ≤ fn.nl)) = true)
    (h2 : evB (ctxOf T G n) fn.code E0 = some (.rt r E)) (h3 : giveD E r = some r') (h4 : finsD E fn.np = some ss) : run T G (n + 1) f as = some (r', ss) := by
  simp only [Bool.and_eq_true, decide_eq_true_eq] at h1
  subst h0
  unfold run
  simp only [h]
  rw [if_pos ⟨h1.1.1, h1.1.2, h1.2⟩]
  show (match evB (ctxOf T G n) fn.code (entry fn as) with
    | some (.rt r E) => _
    | some (.nx E) => _
    | _ => none) = _
  rw [h2]
  simp only [h3, h4]
theorem ctx_call (n : Nat) (f : Str) (as : List (Bool × D)) : (ctxOf T G n).call f as = run T G n f as := rfl
theorem ctx_io {n : Nat} {f : Str} {fn : Fn} (h : T f = some fn) : (ctxOf T G n).io f = fn.io := by
  show ((T f).map (·.io)).getD [] = _
  rw [h]; rfl
@[simp] theorem eqv_str (a b : Txt) : D.eqv (.str a) (.str b) = some (decide (a = b)) := by
  rw [eqv_pure (a := .str a) (b := .str b) rfl rfl (by simp [dep])]
  congr 1
  by_cases e : a = b <;> simp [e]
@[simp] theorem eqv_int (a b : Int) : D.eqv (.int a) (.int b) = some (decide (a = b)) := by
  rw [eqv_pure (a := .int a) (b := .int b) rfl rfl (by simp [dep])]
  congr 1
  by_cases e : a = b <;> simp [e]
/-! ### the helpers of the laws -/
/-- the dict w: draws, at, .. -/
def kDraws : DKey := .s [100, 114, 97, 119, 115]
def kAt : DKey := .s [97, 116]
def kLeft : DKey := .s [108, 101, 102, 116]
def W2 (ds : List Int) (i : Nat) : D := .dct false [(kDraws, .lst (ds.map .int)), (kAt, .int i)]
def W3 (ds : List Int) (i : Nat) (l : Int) : D := .dct false [(kDraws, .lst (ds.map .int)), (kAt, .int i), (kLeft, .int l)]
/-- the next draw -/
def nxt (ds : List Int) (i : Nat) (m : Int) : Int := match ds[i]? with
  | some d => d.fmod m
  | none => 0
def c_law_next : CB := (.cons (.augIx 0 (.con (.str [97, 116])) .add (.con (.int 1))) (.cons (.ite (.op2 .gt (.idx (.var 0) (.con (.str [97, 116]))) (.blt .len (.cons (.idx (.var 0) (.con (.str [100, 114, 97, 119, 115]))) .nil))) (.cons (.ret (.con (.int 0))) .nil) .nil) (.cons (.ret (.op2 .mod (.blt .int (.cons (.idx (.idx (.var 0) (.con (.str [100, 114, 97, 119, 115]))) (.op2 .sub (.idx (.var 0) (.con (.str [97, 116]))) (.con (.int 1)))) .nil)) (.var 1))) .nil)))
def f_law_next : Fn := ⟨2, 2, [true, false], c_law_next⟩
theorem run_next2 (hT : T "_law_next" = some f_law_next) (n : Nat) (ds : List Int) (i : Nat) (m : Int) (hm : 0 < m) :
    run T G (n + 1) "_law_next" [(true, W2 ds i), (false, .int m)] = some (.sh (.int (nxt ds i m)), [.ow (W2 ds (i + 1)), .sh (.int m)]) := by
  by_cases h : i < ds.length
  · refine run_of (fn := f_law_next) (E0 := ⟨[.ow (W2 ds i), .sh (.int m)], [0]⟩) (E := ⟨[.ow (W2 ds (i + 1)), .sh (.int m)], [0]⟩) (r := .sh (.int (nxt ds i m))) hT rfl rfl ?_ rfl rfl
    have e : ds[i]? = some ds[i] := List.getElem?_eq_getElem h
    have h1 : ¬ ((ds.length : Int) < (i : Int) + 1) := by omega
    have h2 : m ≠ 0 := by omega
    unfold f_law_next c_law_next W2 kDraws kAt nxt
    walk_at "fi*"
  · refine run_of (fn := f_law_next) (E0 := ⟨[.ow (W2 ds i), .sh (.int m)], [0]⟩) (E := ⟨[.ow (W2 ds (i + 1)), .sh (.int m)], [0]⟩) (r := .sh (.int (nxt ds i m))) hT rfl rfl ?_ rfl rfl
    have e : ds[i]? = none := List.getElem?_eq_none (by omega)
    have h1 : (ds.length : Int) < (i : Int) + 1 := by omega
    have h2 : m ≠ 0 := by omega
    unfold f_law_next c_law_next W2 kDraws kAt nxt
    walk_at "fi*"
end
end Fi
end

section
/-! FiX: walks over lists, as lemmas for use. Own work. -/
namespace Fi
open PySem L2
theorem cmpL_map {α : Type} {f : D → Env → Option (Option D × Env)} {E : Env} (e g : α → D) : ∀ (xs : List α) (acc : List D), (∀ x ∈ xs, f (e x) E = some (some (g x), E)) → acc.length + xs.length ≤ bigLine → cmpL f (xs.map e) acc E = some (acc ++ xs.map g, E)
  | [], acc, _, _ => by simp [cmpL]
  | x :: xs, acc, h, hl => by
    rw [List.map_cons, cmpL, h x (by simp)]
    have : acc.length < bigLine := by simp at hl; omega
    simp only [if_pos this]
    rw [cmpL_map e g xs (acc ++ [g x]) (fun y hy => h y (by simp [hy])) (by simp at hl ⊢; omega)]
    simp
theorem cmpL_filter {α : Type} {f : D → Env → Option (Option D × Env)} {E : Env} (e g : α → D) (p : α → Bool) : ∀ (xs : List α) (acc : List D), (∀ x ∈ xs, f (e x) E = some (if p x = true then some (g x) else none, E)) → acc.length + xs.length ≤ bigLine → cmpL f (xs.map e) acc E = some (acc ++ (xs.filter p).map g, E)
  | [], acc, _, _ => by simp [cmpL]
  | x :: xs, acc, h, hl => by
    rw [List.map_cons, cmpL, h x (by simp)]
    cases hp : p x with
    | true =>
      have : acc.length < bigLine := by simp at hl; omega
      simp only [if_true, if_pos this]
      rw [cmpL_filter e g p xs (acc ++ [g x]) (fun y hy => h y (by simp [hy])) (by simp at hl ⊢; omega)]
      simp [hp]
    | false =>
      simp only [Bool.false_eq_true, if_false]
      rw [cmpL_filter e g p xs acc (fun y hy => h y (by simp [hy])) (by simp at hl ⊢; omega)]
      simp [hp]
theorem cmpL_inv {α : Type} {f : D → Env → Option (Option D × Env)} {I : Env → Prop} {Q : D → Prop} (e : α → D) : ∀ (xs : List α) (acc : List D) (E : Env), I E → (∀ x ∈ xs, ∀ E, I E → ∃ d E', f (e x) E = some (some d, E') ∧ I E' ∧ Q d) → acc.length + xs.length ≤ bigLine →
    ∃ out E', cmpL f (xs.map e) acc E = some (acc ++ out, E') ∧ I E' ∧ (∀ d ∈ out, Q d) ∧ out.length = xs.length
  | [], acc, E, hI, _, _ => ⟨[], E, by simp [cmpL], hI, by simp, rfl⟩
  | x :: xs, acc, E, hI, h, hl => by
    obtain ⟨d, E1, h1, h2, h3⟩ := h x (by simp) E hI
    have : acc.length < bigLine := by simp at hl; omega
    obtain ⟨out, E2, k1, k2, k3, k4⟩ := cmpL_inv e xs (acc ++ [d]) E1 h2 (fun y hy => h y (by simp [hy])) (by simp at hl ⊢; omega)
    refine ⟨d :: out, E2, ?_, k2, fun y hy => (List.mem_cons.mp hy).elim (fun e => e ▸ h3) (k3 y), by simp [k4]⟩
    rw [List.map_cons, cmpL, h1]
    simp only [if_pos this]
    rw [k1]; simp
theorem cmpLL_flat {α β : Type} {f : D → List D → Env → Option (List D × Env)} {E : Env} (e : α → D) (g : α → List β) (e' : β → D) : ∀ (xs : List α) (acc : List D), (∀ x ∈ xs, ∀ acc : List D, acc.length + (g x).length ≤ bigLine → f (e x) acc E = some (acc ++ (g x).map e', E)) →
    acc.length + (xs.flatMap g).length ≤ bigLine → cmpLL f (xs.map e) acc E = some (acc ++ (xs.flatMap g).map e', E)
  | [], acc, _, _ => by simp [cmpLL]
  | x :: xs, acc, h, hl => by
    rw [List.flatMap_cons, List.length_append] at hl
    rw [List.map_cons, cmpLL, h x (by simp) acc (by omega)]
    simp only
    rw [cmpLL_flat e g e' xs (acc ++ (g x).map e') (fun y hy => h y (by simp [hy])) (by simp only [List.length_append, List.length_map]; omega)]
    simp
/-- a for-loop as a fold -/
theorem forL_fold {α σ : Type} {f : D → Env → Option Out} (e : α → D) (enc : σ → Env) (g : α → σ → σ) (P : List α → σ → Prop) : ∀ (xs : List α) (s : σ), P xs s → (∀ x r s, P (x :: r) s → f (e x) (enc s) = some (.nx (enc (g x s))) ∧ P r (g x s)) →
    forL f (xs.map e) (enc s) = some (.nx (enc (xs.foldl (fun s x => g x s) s)))
  | [], s, _, _ => rfl
  | x :: xs, s, hp, h => by
    obtain ⟨h1, h2⟩ := h x xs s hp
    rw [List.map_cons, forL, h1]
    exact forL_fold e enc g P xs (g x s) h2 h
/-- a for-loop that goes on to its end, by what holds all along -/
theorem forL_inv {α : Type} {f : D → Env → Option Out} (e : α → D) {I : List α → Env → Prop} : ∀ (xs : List α) (E : Env), I xs E → (∀ x r E, I (x :: r) E → ∃ E', (f (e x) E = some (.nx E') ∨ f (e x) E = some (.ct E')) ∧ I r E') → ∃ E', forL f (xs.map e) E = some (.nx E') ∧ I [] E'
  | [], E, hI, _ => ⟨E, rfl, hI⟩
  | x :: xs, E, hI, h => by
    obtain ⟨E1, h1, h2⟩ := h x xs E hI
    obtain ⟨E2, k1, k2⟩ := forL_inv e xs E1 h2 h
    refine ⟨E2, ?_, k2⟩
    rw [List.map_cons, forL]
    rcases h1 with h1 | h1 <;> rw [h1] <;> exact k1
/-- a for-loop that goes on to its end, by what is walked so far -/
theorem forL_pre {α : Type} {f : D → Env → Option Out} (e : α → D) {I : List α → Env → Prop} (xs : List α) {E : Env} (hI : I [] E) (h : ∀ pre x post E, xs = pre ++ x :: post → I pre E → ∃ E', (f (e x) E = some (.nx E') ∨ f (e x) E = some (.ct E')) ∧ I (pre ++ [x]) E') :
    ∃ E', forL f (xs.map e) E = some (.nx E') ∧ I xs E' := by
  have k : ∀ (post pre : List α) (E : Env), xs = pre ++ post → I pre E → ∃ E', forL f (post.map e) E = some (.nx E') ∧ I xs E' := by
    intro post
    induction post with
    | nil => intro pre E hx hI; simp at hx; subst hx; exact ⟨E, rfl, hI⟩
    | cons x post ih =>
      intro pre E hx hI
      obtain ⟨E1, h1, h2⟩ := h pre x post E hx hI
      obtain ⟨E2, k1, k2⟩ := ih (pre ++ [x]) E1 (by rw [hx]; simp) h2
      refine ⟨E2, ?_, k2⟩
      rw [List.map_cons, forL]
      rcases h1 with h1 | h1 <;> rw [h1] <;> exact k1
  exact k xs [] E rfl hI
theorem whlN_mono {t : Env → Option (Bool × Env)} {f : Env → Option Out} {o : Out} : ∀ {n : Nat} {E : Env}, whlN t f n E = some o → ∀ {m : Nat}, n ≤ m → whlN t f m E = some o
  | 0, _, h, _, _ => by simp [whlN] at h
  | n + 1, E, h, m, hm => by
    obtain ⟨k, rfl⟩ : ∃ k, m = k + 1 := ⟨m - 1, by omega⟩
    unfold whlN at h ⊢
    cases ht : t E with
    | none => rw [ht] at h; cases h
    | some p =>
      obtain ⟨b, E1⟩ := p
      rw [ht] at h
      cases b with
      | false => exact h
      | true =>
        simp only at h ⊢
        cases hf : f E1 with
        | none => rw [hf] at h; cases h
        | some q =>
          rw [hf] at h
          cases q with
          | nx E2 => exact whlN_mono h (by omega)
          | ct E2 => exact whlN_mono h (by omega)
          | bk E2 => exact h
          | rt r E2 => exact h
theorem whl_of {t : Env → Option (Bool × Env)} {f : Env → Option Out} {o : Out} {n : Nat} {E : Env} (h : whlN t f n E = some o) : whl t f E = some o := by
  have ex : ∃ o n, whlN t f n E = some o := ⟨o, n, h⟩
  unfold whl
  rw [dif_pos ex]
  obtain ⟨m, hm⟩ := ex.choose_spec
  have h1 := whlN_mono h (m := max n m) (by omega)
  have h2 := whlN_mono hm (m := max n m) (by omega)
  rw [h1] at h2
  exact h2.symm
/-- a while-loop that comes to its end, by a measure -/
theorem whl_inv {t : Env → Option (Bool × Env)} {f : Env → Option Out} {I : Nat → Env → Prop} {Q : Env → Prop} (h : ∀ n E, I n E → (∃ E1, t E = some (false, E1) ∧ Q E1) ∨ ∃ E1 E2 m, t E = some (true, E1) ∧ f E1 = some (.nx E2) ∧ m < n ∧ I m E2) {n : Nat} {E : Env} (hI : I n E) : ∃ E', whl t f E = some (.nx E') ∧ Q E' := by
  have k : ∀ n E, I n E → ∃ E' N, whlN t f N E = some (.nx E') ∧ Q E' := by
    intro n
    induction n using Nat.strongRecOn with
    | ind n ih =>
      intro E hI
      rcases h n E hI with ⟨E1, h1, h2⟩ | ⟨E1, E2, m, h1, h2, h3, h4⟩
      · exact ⟨E1, 1, by simp [whlN, h1], h2⟩
      · obtain ⟨E', N, k1, k2⟩ := ih m h3 E2 h4
        exact ⟨E', N + 1, by simp [whlN, h1, h2, k1], k2⟩
  obtain ⟨E', N, k1, k2⟩ := k n E hI
  exact ⟨E', whl_of k1, k2⟩
/-! ### what a block comes to -/
section
variable {C : Ctx}
def WB (C : Ctx) (b : CB) (E : Env) (Q : Out → Prop) : Prop := ∃ o, evB C b E = some o ∧ Q o
def WS (C : Ctx) (s : CS) (E : Env) (Q : Out → Prop) : Prop := ∃ o, evS C s E = some o ∧ Q o
def cont (C : Ctx) (r : CB) (Q : Out → Prop) : Out → Prop
  | .nx E => WB C r E Q
  | .rt v E => Q (.rt v E)
  | .bk E => Q (.bk E)
  | .ct E => Q (.ct E)
variable {E : Env} {Q : Out → Prop}
theorem WB_nil : WB C .nil E Q = Q (.nx E) := by
  unfold WB; rw [evB]; simp
theorem WB_cons {s : CS} {r : CB} : WB C (.cons s r) E Q = WS C s E (cont C r Q) := by
  unfold WB WS
  rw [evB]
  cases evS C s E with
  | none => simp
  | some o => cases o <;> simp [cont, WB]
theorem WS_asg {t : Tg} {e : CE} : WS C (.asg t e) E Q = ∃ o, evS C (.asg t e) E = some o ∧ Q o := rfl
theorem WS_par {is : List Nat} {e : CEs} : WS C (.par is e) E Q = ∃ o, evS C (.par is e) E = some o ∧ Q o := rfl
theorem WS_aug {i : Nat} {op : O2} {e : CE} : WS C (.aug i op e) E Q = ∃ o, evS C (.aug i op e) E = some o ∧ Q o := rfl
theorem WS_augIx {i : Nat} {k : CE} {op : O2} {e : CE} : WS C (.augIx i k op e) E Q = ∃ o, evS C (.augIx i k op e) E = some o ∧ Q o := rfl
theorem WS_setIx {i : Nat} {k : CE} {e : CE} : WS C (.setIx i k e) E Q = ∃ o, evS C (.setIx i k e) E = some o ∧ Q o := rfl
theorem WS_ex {e : CE} : WS C (.ex e) E Q = ∃ o, evS C (.ex e) E = some o ∧ Q o := rfl
theorem WS_ret {e : CE} : WS C (.ret e) E Q = ∃ o, evS C (.ret e) E = some o ∧ Q o := rfl
theorem WS_retN : WS C .retN E Q = Q (.rt (.sh .non) E) := by unfold WS; rw [evS]; simp
theorem WS_brk : WS C .brk E Q = Q (.bk E) := by unfold WS; rw [evS]; simp
theorem WS_cnt : WS C .cnt E Q = Q (.ct E) := by unfold WS; rw [evS]; simp
theorem WS_pas : WS C .pas E Q = Q (.nx E) := by unfold WS; rw [evS]; simp
def iteT (C : Ctx) (a b : CB) (E1 : Env) (Q : Out → Prop) : Option Bool → Prop
  | some true => WB C a E1 Q
  | some false => WB C b E1 Q
  | none => False
def iteQ (C : Ctx) (a b : CB) (Q : Out → Prop) : Option (Rs × Env) → Prop
  | some (r, E1) => iteT C a b E1 Q ((E1.vw r).bind D.truth)
  | none => False
theorem WS_ite {c : CE} {a b : CB} : WS C (.ite c a b) E Q = iteQ C a b Q (evE C c E) := by
  unfold WS; rw [evS]
  cases evE C c E with
  | none => simp [iteQ]
  | some p =>
    obtain ⟨r, E1⟩ := p
    simp only [iteQ]
    cases (E1.vw r).bind D.truth with
    | none => simp [iteT]
    | some k => cases k <;> rfl
theorem iteQ_some {a b : CB} {r : Rs} {E1 : Env} : iteQ C a b Q (some (r, E1)) = iteT C a b E1 Q ((E1.vw r).bind D.truth) := rfl
theorem iteT_t {a b : CB} {E1 : Env} : iteT C a b E1 Q (some true) = WB C a E1 Q := rfl
theorem iteT_f {a b : CB} {E1 : Env} : iteT C a b E1 Q (some false) = WB C b E1 Q := rfl
theorem cont_nx {r : CB} {E1 : Env} : cont C r Q (.nx E1) = WB C r E1 Q := rfl
theorem cont_rt {r : CB} {E1 : Env} {v : Rs} : cont C r Q (.rt v E1) = Q (.rt v E1) := rfl
theorem cont_bk {r : CB} {E1 : Env} : cont C r Q (.bk E1) = Q (.bk E1) := rfl
theorem cont_ct {r : CB} {E1 : Env} : cont C r Q (.ct E1) = Q (.ct E1) := rfl
def Lp (Q : Out → Prop) (l : Option (Nat × Bool)) (J : Env → Prop) : Out → Prop
  | .nx E => J E
  | .ct E => J E
  | .rt v E => Q (.rt v (unlock E l))
  | .bk E => Q (.nx (unlock E l))
section
variable {l : Option (Nat × Bool)} {J : Env → Prop} {E1 : Env} {v : Rs}
theorem Lp_nx : Lp Q l J (.nx E1) = J E1 := rfl
theorem Lp_ct : Lp Q l J (.ct E1) = J E1 := rfl
theorem Lp_rt : Lp Q l J (.rt v E1) = Q (.rt v (unlock E1 l)) := rfl
theorem Lp_bk : Lp Q l J (.bk E1) = Q (.nx (unlock E1 l)) := rfl
end
def WT (C : Ctx) (t : Tg) (b : CB) (d : D) (E : Env) (Q : Out → Prop) : Prop := match bindT t d E with
  | some E2 => WB C b E2 Q
  | none => False
theorem WT_get {t : Tg} {b : CB} {d : D} (h : WT C t b d E Q) : ∃ E2, bindT t d E = some E2 ∧ WB C b E2 Q := by
  unfold WT at h
  cases hb : bindT t d E with
  | none => rw [hb] at h; exact h.elim
  | some E2 => rw [hb] at h; exact ⟨E2, rfl, h⟩
theorem ws_for {α : Type} {t : Tg} {it : IT} {b : CB} (e : α → D) (xs : List α) {I : List α → Env → Prop} {l : Option (Nat × Bool)} {E1 : Env} (h : evI C it E = some (xs.map e, l, E1)) (hI : I [] E1)
    (step : ∀ pre x post E', xs = pre ++ x :: post → I pre E' → WT C t b (e x) E' (Lp Q l (I (pre ++ [x])))) (fin : ∀ E', I xs E' → Q (.nx (unlock E' l))) : WS C (.for t it b) E Q := by
  have k : ∀ (post pre : List α) (E' : Env), xs = pre ++ post → I pre E' → ∃ o, forL (fun d E' => match bindT t d E' with
          | some E2 => evB C b E2
          | none => none) (post.map e) E' = some o ∧ Q (mapOut (fun E2 => unlock E2 l) o) := by
    intro post
    induction post with
    | nil => intro pre E' hx hI; simp at hx; subst hx; exact ⟨.nx E', rfl, fin E' hI⟩
    | cons x post ih =>
      intro pre E' hx hI
      obtain ⟨E2, hb, o, h1, h2⟩ := WT_get (step pre x post E' hx hI)
      rw [List.map_cons, forL]
      simp only [hb, h1]
      cases o with
      | nx E3 => exact ih (pre ++ [x]) E3 (by rw [hx]; simp) h2
      | ct E3 => exact ih (pre ++ [x]) E3 (by rw [hx]; simp) h2
      | rt v E3 => exact ⟨_, rfl, h2⟩
      | bk E3 => exact ⟨_, rfl, h2⟩
  obtain ⟨o, k1, k2⟩ := k xs [] E1 rfl hI
  unfold WS
  rw [evS, h]
  exact ⟨_, congrArg (fun z : Option Out => match z with
    | some o => some (mapOut (fun E2 => unlock E2 l) o)
    | none => none) k1, k2⟩
def Lw (Q : Out → Prop) (n : Nat) (I : Nat → Env → Prop) : Out → Prop
  | .nx E => ∃ m, m < n ∧ I m E
  | .ct E => ∃ m, m < n ∧ I m E
  | .rt v E => Q (.rt v E)
  | .bk E => Q (.nx E)
section
variable {n : Nat} {I : Nat → Env → Prop} {E1 : Env} {v : Rs}
theorem Lw_nx : Lw Q n I (.nx E1) = ∃ m, m < n ∧ I m E1 := rfl
theorem Lw_ct : Lw Q n I (.ct E1) = ∃ m, m < n ∧ I m E1 := rfl
theorem Lw_rt : Lw Q n I (.rt v E1) = Q (.rt v E1) := rfl
theorem Lw_bk : Lw Q n I (.bk E1) = Q (.nx E1) := rfl
end
theorem ws_whl {c : CE} {b : CB} {I : Nat → Env → Prop} {n : Nat} (hI : I n E) (step : ∀ n E', I n E' → ∃ r E1 k, evE C c E' = some (r, E1) ∧ (E1.vw r).bind D.truth = some k ∧ (k = true → WB C b E1 (Lw Q n I)) ∧ (k = false → Q (.nx E1))) : WS C (.whl c b) E Q := by
  have k : ∀ n E', I n E' → ∃ o N, whlN (fun E' => match evE C c E' with
      | some (r, E1) => (match (E1.vw r).bind D.truth with
        | some k => some (k, E1)
        | none => none)
      | none => none) (fun E' => evB C b E') N E' = some o ∧ Q o := by
    intro n
    induction n using Nat.strongRecOn with
    | ind n ih =>
      intro E' hI
      obtain ⟨r, E1, k, h1, h2, h3, h4⟩ := step n E' hI
      cases k with
      | false => exact ⟨.nx E1, 1, by simp [whlN, h1, h2], h4 rfl⟩
      | true =>
        obtain ⟨o, g1, g2⟩ := h3 rfl
        cases o with
        | nx E2 =>
          obtain ⟨m, hm, hI2⟩ := g2
          obtain ⟨o, N, k1, k2⟩ := ih m hm E2 hI2
          exact ⟨o, N + 1, by simp [whlN, h1, h2, g1, k1], k2⟩
        | ct E2 =>
          obtain ⟨m, hm, hI2⟩ := g2
          obtain ⟨o, N, k1, k2⟩ := ih m hm E2 hI2
          exact ⟨o, N + 1, by simp [whlN, h1, h2, g1, k1], k2⟩
        | rt v E2 => exact ⟨_, 1, by simp [whlN, h1, h2, g1], g2⟩
        | bk E2 => exact ⟨_, 1, by simp [whlN, h1, h2, g1], g2⟩
  obtain ⟨o, N, k1, k2⟩ := k n E hI
  refine ⟨o, ?_, k2⟩
  rw [evS]
  exact whl_of k1
end
/-! ### what a call comes to -/
def Done (np : Nat) (P : Rs → List Sl → Prop) : Out → Prop
  | .rt r E => ∃ r' ss, giveD E r = some r' ∧ finsD E np = some ss ∧ P r' ss
  | .nx E => ∃ ss, finsD E np = some ss ∧ P (.sh .non) ss
  | _ => False
section
variable {np : Nat} {P : Rs → List Sl → Prop} {E : Env}
theorem Done_rt {r : Rs} : Done np P (.rt r E) = ∃ r' ss, giveD E r = some r' ∧ finsD E np = some ss ∧ P r' ss := rfl
theorem Done_nx : Done np P (.nx E) = ∃ ss, finsD E np = some ss ∧ P (.sh .non) ss := rfl
theorem giveD_sh {d : D} : giveD E (.sh d) = some (.sh d) := rfl
theorem giveD_ow {d : D} : giveD E (.ow d) = some (.ow d) := rfl
theorem giveD_pk {i : Nat} : giveD E (.pk i) = if E.ro.contains i then none else (match E.get i with
    | .ow d => some (.ow d)
    | .sh d => some (.sh d)
    | _ => none) := rfl
theorem nlk_un : Sl.nlk .un = true := rfl
theorem nlk_sh {d : D} : Sl.nlk (.sh d) = true := rfl
theorem nlk_ow {d : D} : Sl.nlk (.ow d) = true := rfl
theorem nlk_lk {d : D} : Sl.nlk (.lk d) = false := rfl
end
section
variable {T : Str → Option Fn} {G : Str → Option D} {fn : Fn} {f : Str} {as : List (Bool × D)} {n : Nat} {E0 : Env}
theorem run_wb {P : Rs → List Sl → Prop} (h : T f = some fn) (h0 : entry fn as = E0) (h1 : (decide (as.length = fn.np) && decide (as.map (·.1) = fn.io) && decide (fn.np ≤ fn.nl)) = true) (h2 : WB (ctxOf T G n) fn.code E0 (Done fn.np P)) :
    ∃ r ss, run T G (n + 1) f as = some (r, ss) ∧ P r ss := by
  simp only [Bool.and_eq_true, decide_eq_true_eq] at h1
  subst h0
  obtain ⟨o, k1, k2⟩ := h2
  unfold run
  simp only [h]
  rw [if_pos ⟨h1.1.1, h1.1.2, h1.2⟩]
  have k1 : evB { call := run T G n, io := fun g => ((T g).map (·.io)).getD [], glo := G } fn.code (entry fn as) = some o := k1
  rw [k1]
  cases o with
  | rt r E => obtain ⟨r', ss, g1, g2, g3⟩ := k2; simp only [g1, g2]; exact ⟨r', ss, rfl, g3⟩
  | nx E => obtain ⟨ss, g2, g3⟩ := k2; simp only [g2]; exact ⟨_, ss, rfl, g3⟩
  | bk E => exact k2.elim
  | ct E => exact k2.elim
theorem run_eq {r0 : Rs} {ss0 : List Sl} (h : T f = some fn) (h0 : entry fn as = E0) (h1 : (decide (as.length = fn.np) && decide (as.map (·.1) = fn.io) && decide (fn.np ≤ fn.nl)) = true) (h2 : WB (ctxOf T G n) fn.code E0 (Done fn.np fun r ss => r = r0 ∧ ss = ss0)) :
    run T G (n + 1) f as = some (r0, ss0) := by
  obtain ⟨r, ss, k, rfl, rfl⟩ := run_wb h h0 h1 h2
  exact k
end
theorem rg0 : List.range 0 = [] := rfl
theorem rg1 : List.range 1 = [0] := rfl
theorem rg2 : List.range 2 = [0, 1] := rfl
theorem rg3 : List.range 3 = [0, 1, 2] := rfl
theorem rg4 : List.range 4 = [0, 1, 2, 3] := rfl
theorem rg5 : List.range 5 = [0, 1, 2, 3, 4] := rfl
theorem rg6 : List.range 6 = [0, 1, 2, 3, 4, 5] := rfl
/-! ### comprehensions -/
section
variable {C : Ctx} {E E1 E' : Env} {own : List Nat} {e : CE} {t : Tg} {it : IT} {cs : CEs} {l : Option (Nat × Bool)} {α : Type}
theorem cmp_filter (ee g : α → D) (p : α → Bool) (xs : List α) (h : evI C it E = some (xs.map ee, l, E1)) (h1 : (lkFree own l && ownOk E1 own) = true) (h2 : ∀ x ∈ xs, turnF t (evT C cs) (evE C e) own (ee x) (wipeE E1 own) = some (if p x = true then some (g x) else none, wipeE E1 own)) (hl : xs.length ≤ bigLine)
    (h3 : unlock (back E1 (wipeE E1 own) own) l = E') : evE C (.cmp e (.mk t it cs) own) E = some (.ow (.lst ((xs.filter p).map g)), E') := by
  rw [evE, h]
  simp only [h1, if_true]
  rw [cmpL_filter ee g p xs [] h2 (by simpa using hl)]
  simp only [List.nil_append, h3]
theorem cmp_map (ee g : α → D) (xs : List α) (h : evI C it E = some (xs.map ee, l, E1)) (h1 : (lkFree own l && ownOk E1 own) = true) (h2 : ∀ x ∈ xs, turnF t (evT C cs) (evE C e) own (ee x) (wipeE E1 own) = some (some (g x), wipeE E1 own)) (hl : xs.length ≤ bigLine)
    (h3 : unlock (back E1 (wipeE E1 own) own) l = E') : evE C (.cmp e (.mk t it cs) own) E = some (.ow (.lst (xs.map g)), E') := by
  rw [evE, h]
  simp only [h1, if_true]
  rw [cmpL_map ee g xs [] h2 (by simpa using hl)]
  simp only [List.nil_append, h3]
variable {i : Nat} {d : D}
theorem cmpV_filter (ee g : α → D) (p : α → Bool) (xs : List α) (h0 : dictAt E i = none) (h : lockVar E i = some (d, l, E1)) (hs : seqD d = some (xs.map ee)) (h1 : (lkFree own l && ownOk E1 own) = true) (h2 : ∀ x ∈ xs, turnF t (evT C cs) (evE C e) own (ee x) (wipeE E1 own) = some (if p x = true then some (g x) else none, wipeE E1 own)) (hl : xs.length ≤ bigLine)
    (h3 : unlock (back E1 (wipeE E1 own) own) l = E') : evE C (.cmpV e t i cs own) E = some (.ow (.lst ((xs.filter p).map g)), E') := by
  rw [evE, h0]
  simp only [h, hs, h1, if_true]
  rw [cmpL_filter ee g p xs [] h2 (by simpa using hl)]
  simp only [List.nil_append, h3]
theorem cmpV_map (ee g : α → D) (xs : List α) (h0 : dictAt E i = none) (h : lockVar E i = some (d, l, E1)) (hs : seqD d = some (xs.map ee)) (h1 : (lkFree own l && ownOk E1 own) = true) (h2 : ∀ x ∈ xs, turnF t (evT C cs) (evE C e) own (ee x) (wipeE E1 own) = some (some (g x), wipeE E1 own)) (hl : xs.length ≤ bigLine)
    (h3 : unlock (back E1 (wipeE E1 own) own) l = E') : evE C (.cmpV e t i cs own) E = some (.ow (.lst (xs.map g)), E') := by
  rw [evE, h0]
  simp only [h, hs, h1, if_true]
  rw [cmpL_map ee g xs [] h2 (by simpa using hl)]
  simp only [List.nil_append, h3]
/-- over a dict's keys -/
theorem cmpD_map {kvs : List (DKey × D)} (g : DKey × D → D) (h0 : dictAt E i = some kvs) (h1 : ownOk (hide E i) own = true) (h2 : ∀ x ∈ kvs, turnF t (evT C cs) (evE C e) own x.1.d (wipeE (hide E i) own) = some (some (g x), wipeE (hide E i) own)) (hl : kvs.length ≤ bigLine)
    (h3 : unhide (back (hide E i) (wipeE (hide E i) own) own) i (.dct false kvs) E.ro = E') : evE C (.cmpV e t i cs own) E = some (.ow (.lst (kvs.map g)), E') := by
  rw [evE, h0]
  simp only [h1, if_true]
  rw [cmpL_map (fun kv : DKey × D => kv.1.d) g kvs [] h2 (by simpa using hl)]
  simp only [List.nil_append, h3]
theorem cmpD_filter {kvs : List (DKey × D)} (g : DKey × D → D) (p : DKey × D → Bool) (h0 : dictAt E i = some kvs) (h1 : ownOk (hide E i) own = true) (h2 : ∀ x ∈ kvs, turnF t (evT C cs) (evE C e) own x.1.d (wipeE (hide E i) own) = some (if p x = true then some (g x) else none, wipeE (hide E i) own)) (hl : kvs.length ≤ bigLine)
    (h3 : unhide (back (hide E i) (wipeE (hide E i) own) own) i (.dct false kvs) E.ro = E') : evE C (.cmpV e t i cs own) E = some (.ow (.lst ((kvs.filter p).map g)), E') := by
  rw [evE, h0]
  simp only [h1, if_true]
  rw [cmpL_filter (fun kv : DKey × D => kv.1.d) g p kvs [] h2 (by simpa using hl)]
  simp only [List.nil_append, h3]
/-- a comprehension that changes what is about: what holds all along -/
theorem cmp_inv (ee : α → D) (xs : List α) {I : Env → Prop} {R : D → Prop} (h : evI C it E = some (xs.map ee, l, E1)) (h1 : (lkFree own l && ownOk E1 own) = true) (hI : I (wipeE E1 own)) (h2 : ∀ x ∈ xs, ∀ E2, I E2 → ∃ d E3, turnF t (evT C cs) (evE C e) own (ee x) E2 = some (some d, E3) ∧ I E3 ∧ R d) (hl : xs.length ≤ bigLine) :
    ∃ out E3, evE C (.cmp e (.mk t it cs) own) E = some (.ow (.lst out), unlock (back E1 E3 own) l) ∧ I E3 ∧ (∀ d ∈ out, R d) ∧ out.length = xs.length := by
  obtain ⟨out, E3, k1, k2, k3, k4⟩ := cmpL_inv (f := turnF t (evT C cs) (evE C e) own) (I := I) (Q := R) ee xs [] (wipeE E1 own) hI h2 (by simpa using hl)
  refine ⟨out, E3, ?_, k2, k3, k4⟩
  rw [evE, h]
  simp only [h1, if_true]
  rw [k1]; rfl
end
section
variable {C : Ctx} {E E1 E' : Env} {own : List Nat} {e : CE} {t t2 : Tg} {it it2 : IT} {cs2 : CEs} {l : Option (Nat × Bool)} {α β : Type}
theorem cmp2_flat (ee : α → D) (gg : α → List β) (e' g' : β → D) (xs : List α) (h : evI C it E = some (xs.map ee, l, E1)) (h1 : (lkFree own l && ownOk E1 own) = true)
    (h2 : ∀ x ∈ xs, ∃ E2 E4, bindT t (ee x) (wipeE E1 own) = some E2 ∧ evI C it2 E2 = some ((gg x).map e', none, E4) ∧ (∀ y ∈ gg x, turnF t2 (evT C cs2) (evE C e) t2.slots (e' y) (wipeE E4 t2.slots) = some (some (g' y), wipeE E4 t2.slots)) ∧ wipeE (wipeE E4 t2.slots) own = wipeE E1 own)
    (hl : (xs.flatMap gg).length ≤ bigLine) (h3 : unlock (back E1 (wipeE E1 own) own) l = E') : evE C (.cmp2 e (.mk t it .nil) (.mk t2 it2 cs2) own) E = some (.ow (.lst ((xs.flatMap gg).map g')), E') := by
  rw [evE, h]
  simp only [h1, if_true]
  rw [cmpLL_flat (E := wipeE E1 own) ee gg g' xs [] (fun x hx acc ha => ?_) (by simpa using hl)]
  · simp only [List.nil_append, h3]
  · obtain ⟨E2, E4, k1, k2, k3, k4⟩ := h2 x hx
    unfold turnO
    rw [k1]
    simp only [evT, k2, lkFree, if_true]
    rw [cmpL_map e' g' (gg x) acc k3 ha]
    simp only [show ∀ X, unlock X none = X from fun _ => rfl, k4]
end
theorem rngD_nat {n : Nat} (h : n ≤ 16777216) : rngD 0 (n : Int) 1 = some ((List.range n).map fun (k : Nat) => D.int k) := by
  unfold rngD
  rw [if_pos (by omega), if_pos rfl]
  simp
theorem evI_rng {C : Ctx} {a : CE} {E E1 : Env} {n : Nat} (h : evE C a E = some (.sh (.int (n : Int)), E1)) (hn : n ≤ 16777216) : evI C (.rng1 a) E = some ((List.range n).map fun (k : Nat) => D.int k, none, E1) := by
  rw [evI, h]
  simp [Env.vw, rngD_nat hn]
theorem run_nx {T : Str → Option Fn} {G : Str → Option D} {fn : Fn} {f : Str} {as : List (Bool × D)} {n : Nat} {E0 E : Env} {ss : List Sl} (h : T f = some fn) (h0 : entry fn as = E0) (h1 : (decide (as.length = fn.np) && decide (as.map (·.1) = fn.io) && decide (fn.np ≤ fn.nl)) = true)
    (h2 : evB (ctxOf T G n) fn.code E0 = some (.nx E)) (h4 : finsD E fn.np = some ss) : run T G (n + 1) f as = some (.sh .non, ss) := by
  simp only [Bool.and_eq_true, decide_eq_true_eq] at h1
  subst h0
  unfold run
  simp only [h]
  rw [if_pos ⟨h1.1.1, h1.1.2, h1.2⟩]
  show (match evB (ctxOf T G n) fn.code (entry fn as) with
    | some (.rt r E) => _
    | some (.nx E) => _
    | _ => none) = _
  rw [h2]
  simp only [h4]
end Fi
end

section
set_option maxRecDepth 100000
set_option maxHeartbeats 4000000
/-! FiY: the laws' own helpers: draws, next, pick, same. Own work. -/
namespace Fi
open PySem L2
local macro_rules | `(tactic| walk_at "fi") => `(tactic| simp [WB_cons, WB_nil, WS_asg, WS_par, WS_aug, WS_augIx, WS_setIx, WS_ex, WS_ret, WS_retN, WS_brk, WS_cnt, WS_pas, WS_ite, iteQ_some, iteT_t, iteT_f, cont_nx, cont_rt, cont_bk, cont_ct, Lp_nx, Lp_ct, Lp_rt, Lp_bk, Lw_nx, Lw_ct, Lw_rt, Lw_bk, WT, Done_rt, Done_nx, giveD_sh, giveD_ow, giveD_pk, finsD, rg0, rg1, rg2, rg3, rg4, rg5, rg6, evS, evE, evEs, evO, evT, evI, Env.get, Env.put, Env.vw, Env.rd, Env.tk, Env.tks, Env.free, Rs.fz, op2D, addD, subD, mulD, fdivD, modD, powD, cmpA, ordD, nlk_un, nlk_sh, nlk_ow, nlk_lk, isD, iopD, iaddD, inopD, iaddI, op1D, PR.rs, D.truth, D.len, ixD, ix, partD, cutD, revD, lenB, absB, intB, tupleB, listB, anyB, allB, isinstB, bltD, getB, mthD, mthTy, appendB, extendB, popB, mutD, mutTy, setD, D.key, DKey.ok, tyNames, D.tyName, tySub, lock, unlock, lkFree, seqD, puts, bindT, Tg.slots, wipeE, back, argsOf, lent, lentOk, Ar.pass, behind, dk_ss, dk_ii, dk_si, dk_is, bigLine, ownOk, mapOut, turnF, dictAt, lockVar, hide, unhide, bls, inD, D.isNon, List.lookup, ctx_call, *])
theorem eqv_bl (a b : Bool) : D.eqv (.bl a) (.bl b) = some (decide (a = b)) := by
  cases a <;> cases b <;> rfl
theorem eqv_non : D.eqv .non .non = some true := rfl
/-! ### the dict w -/
def Wd (ds : List Int) (i : Nat) (rest : List (DKey × D)) : D := .dct false ((kDraws, .lst (ds.map .int)) :: (kAt, .int i) :: rest)
theorem kput_at {rest : List (DKey × D)} (h : ∀ kv ∈ rest, kv.1 ≠ kAt) (a b d : D) : kput kAt d ((kDraws, a) :: (kAt, b) :: rest) = (kDraws, a) :: (kAt, d) :: rest := by
  unfold kput
  rw [if_pos (by simp)]
  have : rest.map (fun kv => if kv.1 = kAt then (kv.1, d) else kv) = rest := by
    have h2 : ∀ l : List (DKey × D), (∀ kv ∈ l, kv.1 ≠ kAt) → l.map (fun kv => if kv.1 = kAt then (kv.1, d) else kv) = l := by
      intro l
      induction l with
      | nil => intro _; rfl
      | cons x l ih => intro h; rw [List.map_cons, if_neg (h x (by simp)), ih fun y hy => h y (by simp [hy])]
    exact h2 rest h
  rw [List.map_cons, List.map_cons, this]
  rfl
theorem kget_at (a b : D) (rest : List (DKey × D)) : kget kAt ((kDraws, a) :: (kAt, b) :: rest) = some b := rfl
theorem kget_draws (a b : D) (rest : List (DKey × D)) : kget kDraws ((kDraws, a) :: (kAt, b) :: rest) = some a := rfl
def OkRest (rest : List (DKey × D)) : Prop := (∀ kv ∈ rest, kv.1 ≠ kAt) ∧ rest.length < 1000
theorem nxt_le {ds : List Int} {i : Nat} {m : Int} (h : 0 < m) : 0 ≤ nxt ds i m ∧ nxt ds i m < m := by
  unfold nxt
  split
  · exact ⟨Int.fmod_nonneg_of_pos _ h, Int.fmod_lt_of_pos _ h⟩
  · omega
section
variable {T : Str → Option Fn} {G : Str → Option D}
theorem run_next (hT : T "_law_next" = some f_law_next) (n : Nat) (ds : List Int) (i : Nat) {rest : List (DKey × D)} (hr : OkRest rest) (m : Int) (hm : 0 < m) :
    run T G (n + 1) "_law_next" [(true, Wd ds i rest), (false, .int m)] = some (.sh (.int (nxt ds i m)), [.ow (Wd ds (i + 1) rest), .sh (.int m)]) := by
  refine run_eq (fn := f_law_next) (E0 := ⟨[.ow (Wd ds i rest), .sh (.int m)], [0]⟩) hT rfl rfl ?_
  have k1 : ∀ d, kput (.s [97, 116]) d ((kDraws, .lst (ds.map .int)) :: (kAt, .int i) :: rest) = (kDraws, .lst (ds.map .int)) :: (kAt, d) :: rest := fun d => kput_at hr.1 _ _ d
  have k2 : ∀ b, kget (.s [97, 116]) ((kDraws, .lst (ds.map .int)) :: (kAt, b) :: rest) = some b := fun b => kget_at _ b _
  have k3 : ∀ b, kget (.s [100, 114, 97, 119, 115]) ((kDraws, .lst (ds.map .int)) :: (kAt, b) :: rest) = some (.lst (ds.map .int)) := fun b => kget_draws _ b _
  have hl : rest.length + 1 + 1 < 16777216 := by have := hr.2; omega
  have h2 : m ≠ 0 := by omega
  unfold f_law_next c_law_next Wd
  by_cases h : i < ds.length
  · have e : ds[i]? = some ds[i] := List.getElem?_eq_getElem h
    have h1 : ¬ ((ds.length : Int) < (i : Int) + 1) := by omega
    have hn : nxt ds i m = (ds[i]).fmod m := by unfold nxt; rw [e]
    walk_at "fi"
  · have h1 : (ds.length : Int) < (i : Int) + 1 := by omega
    have hn : nxt ds i m = 0 := by unfold nxt; rw [List.getElem?_eq_none (by omega)]
    walk_at "fi"
def c_law_pick : CB := (.cons (.ret (.idx (.var 1) (.call "_law_next" (.cons (.var 0) (.cons (.blt .len (.cons (.var 1) .nil)) .nil))))) .nil)
def f_law_pick : Fn := ⟨2, 2, [true, false], c_law_pick⟩
/-- which of so many rows is picked -/
def pickAt (ds : List Int) (i n : Nat) : Nat := (nxt ds i n).toNat
theorem pickAt_lt {ds : List Int} {i n : Nat} (h : 0 < n) : pickAt ds i n < n := by
  have := nxt_le (ds := ds) (i := i) (m := n) (by omega)
  unfold pickAt; omega
theorem run_pick (hN : T "_law_next" = some f_law_next) (hT : T "_law_pick" = some f_law_pick) (n : Nat) (ds : List Int) (i : Nat) {rest : List (DKey × D)} (hr : OkRest rest) (xs : List D) (h : xs ≠ []) :
    ∃ x, xs[pickAt ds i xs.length]? = some x ∧ run T G (n + 2) "_law_pick" [(true, Wd ds i rest), (false, .lst xs)] = some (.sh x, [.ow (Wd ds (i + 1) rest), .sh (.lst xs)]) := by
  have hl : 0 < xs.length := List.length_pos_iff.mpr h
  have hp := pickAt_lt (ds := ds) (i := i) hl
  refine ⟨_, List.getElem?_eq_getElem hp, ?_⟩
  refine run_eq (fn := f_law_pick) (E0 := ⟨[.ow (Wd ds i rest), .sh (.lst xs)], [0]⟩) hT rfl rfl ?_
  have hb := nxt_le (ds := ds) (i := i) (m := xs.length) (by omega)
  have hn := run_next (G := G) hN n ds i hr (xs.length : Int) (by omega)
  have hio : (ctxOf T G (n + 1)).io "_law_next" = [true, false] := by
    show ((T _).map (·.io)).getD [] = _
    rw [hN]; rfl
  have h1 : (0 : Int) ≤ nxt ds i xs.length := hb.1
  have h2 : nxt ds i (xs.length : Int) < (xs.length : Int) := hb.2
  have h3 : xs[(nxt ds i (xs.length : Int)).toNat]? = some xs[pickAt ds i xs.length] := List.getElem?_eq_getElem hp
  unfold f_law_pick c_law_pick
  walk_at "fi"
  rfl
/-! ### the draws -/
theorem cut_toI {α : Type} (t : List α) (i : Nat) : cut t none (some (i : Int)) = t.take i := by
  unfold cut cutAt
  have h1 : ¬ ((i : Int) < 0) := by omega
  simp only [if_neg h1, List.drop_zero, Nat.sub_zero]
  rw [show (i : Int).toNat = i by omega]
  by_cases h : i ≤ t.length
  · rw [Nat.min_eq_left h]
  · rw [Nat.min_eq_right (by omega), List.take_length, List.take_of_length_le (by omega)]
def b1_law_draws : CB := (.cons (.asg (.nm 3) (.op2 .mod (.blt .int (.cons (.op2 .add (.op2 .add (.op2 .mul (.var 3) (.con (.int 16807))) (.var 4)) (.con (.int 1))) .nil)) (.con (.int 65537)))) (.cons (.ex (.mut .append 2 (.cons (.op2 .mod (.blt .int (.cons (.var 3) .nil)) (.con (.int 997))) .nil))) .nil))
def b2_law_draws : CB := (.cons (.ite (.op2 .gt (.var 6) (.con (.int 0))) (.cons (.ex (.mut .append 2 (.cons (.op2 .mod (.blt .int (.cons (.var 6) .nil)) (.con (.int 997))) .nil))) (.cons (.asg (.nm 6) (.op2 .fdiv (.var 6) (.con (.int 997)))) .nil)) .nil) .nil)
def b3_law_draws : CB := (.cons (.asg (.nm 5) (.blt .abs (.cons (.blt .int (.cons (.idx (.var 0) (.var 4)) .nil)) .nil))) (.cons (.asg (.nm 3) (.op2 .mod (.blt .int (.cons (.op2 .add (.op2 .add (.op2 .mul (.var 3) (.con (.int 48271))) (.op2 .mod (.var 5) (.con (.int 1000003)))) (.var 4)) .nil)) (.con (.int 65537)))) (.cons (.asg (.nm 6) (.con (.int 0))) (.cons (.ite (.op2 .ge (.var 5) (.op2 .pow (.con (.int 10)) (.con (.int 18)))) (.cons (.asg (.nm 6) (.var 5)) .nil) (.cons (.ex (.mut .append 2 (.cons (.op2 .mod (.blt .int (.cons (.var 5) .nil)) (.con (.int 997))) .nil))) (.cons (.ex (.mut .append 2 (.cons (.op2 .mod (.op2 .mod (.blt .int (.cons (.op2 .add (.op2 .mul (.var 3) (.con (.int 69621))) (.con (.int 5))) .nil)) (.con (.int 65521))) (.con (.int 997))) .nil))) .nil))) (.cons (.for (.nm 7) (.rng1 (.con (.int 60))) b2_law_draws) .nil)))))
def c_law_draws : CB := (.cons (.asg (.nm 2) (.lst .nil)) (.cons (.asg (.nm 3) (.con (.int 7))) (.cons (.for (.nm 4) (.rng1 (.blt .len (.cons (.var 0) .nil))) b3_law_draws) (.cons (.for (.nm 4) (.rng1 (.var 1)) b1_law_draws) (.cons (.ret (.cut (.var 2) .no (.so (.var 1)))) .nil)))))
def f_law_draws : Fn := ⟨2, 8, [false, false], c_law_draws⟩
theorem run_draws (hT : T "_law_draws" = some f_law_draws) (n : Nat) (ns : List Int) (m : Nat) (hns : ns.length ≤ 63) (hm : m ≤ 100000) :
    ∃ ds : List Int, run T G (n + 1) "_law_draws" [(false, .scr ns), (false, .int m)] = some (.ow (.lst (ds.map .int)), [.sh (.scr ns), .sh (.int m)]) := by
  have key : ∃ r ss, run T G (n + 1) "_law_draws" [(false, .scr ns), (false, .int m)] = some (r, ss) ∧ ((∃ ds : List Int, r = .ow (.lst (ds.map .int))) ∧ ss = [.sh (.scr ns), .sh (.int m)]) := by
    refine run_wb (fn := f_law_draws) (E0 := ⟨[.sh (.scr ns), .sh (.int m), .un, .un, .un, .un, .un, .un], []⟩) (P := fun r ss => (∃ ds : List Int, r = .ow (.lst (ds.map .int))) ∧ ss = [.sh (.scr ns), .sh (.int m)]) hT rfl rfl ?_
    unfold f_law_draws c_law_draws
    walk_at "fi"
    refine ws_for (fun (k : Nat) => D.int k) (List.range ns.length) (I := fun pre E' => ∃ (ds : List Int) (z : Int) (j4 j5 j6 j7 : Sl), E' = ⟨[.sh (.scr ns), .sh (.int m), .ow (.lst (ds.map .int)), .sh (.int z), j4, j5, j6, j7], []⟩ ∧ ds.length ≤ 100 * pre.length ∧ j4.nlk = true ∧ j5.nlk = true ∧ j6.nlk = true ∧ j7.nlk = true) (l := none) (E1 := ⟨[.sh (.scr ns), .sh (.int m), .ow (.lst []), .sh (.int 7), .un, .un, .un, .un], []⟩)
      (evI_rng (n := ns.length) (by walk_at "fi") (by omega)) ⟨[], 7, .un, .un, .un, .un, rfl, by simp, rfl, rfl, rfl, rfl⟩ ?_ ?_
    · rintro pre k post E hx ⟨ds, z, j4, j5, j6, j7, rfl, hd, h4, h5, h6, h7⟩
      have hk : k < ns.length := by
        have : k ∈ List.range ns.length := by rw [hx]; simp
        simpa using this
      have hpl : pre.length < 63 := by have := congrArg List.length hx; simp at this; omega
      have hg : ns[k]? = some ns[k] := List.getElem?_eq_getElem hk
      have hpow : ((10 : Int) ^ (18 : Nat)) = 1000000000000000000 := by decide
      have tail : ∀ (ds2 : List Int) (z2 c r : Int), ds2.length ≤ ds.length + 2 → WS (ctxOf T G n) (.for (.nm 7) (.rng1 (.con (.int 60))) b2_law_draws) ⟨[.sh (.scr ns), .sh (.int m), .ow (.lst (ds2.map .int)), .sh (.int z2), .sh (.int k), .sh (.int c), .sh (.int r), j7], []⟩
          (cont (ctxOf T G n) .nil (Lp (cont (ctxOf T G n) (.cons (.for (.nm 4) (.rng1 (.var 1)) b1_law_draws) (.cons (.ret (.cut (.var 2) .no (.so (.var 1)))) .nil)) (Done 2 fun r ss => (∃ ds : List Int, r = .ow (.lst (ds.map .int))) ∧ ss = [.sh (.scr ns), .sh (.int m)])) none (fun E' => ∃ (ds : List Int) (z : Int) (j4 j5 j6 j7 : Sl), E' = ⟨[.sh (.scr ns), .sh (.int m), .ow (.lst (ds.map .int)), .sh (.int z), j4, j5, j6, j7], []⟩ ∧ ds.length ≤ 100 * (pre.length + 1) ∧ j4.nlk = true ∧ j5.nlk = true ∧ j6.nlk = true ∧ j7.nlk = true))) := by
        intro ds2 z2 c r hd2
        refine ws_for (fun (k : Nat) => D.int k) (List.range 60) (I := fun pre' E' => ∃ (ds3 : List Int) (r : Int) (j7 : Sl), E' = ⟨[.sh (.scr ns), .sh (.int m), .ow (.lst (ds3.map .int)), .sh (.int z2), .sh (.int k), .sh (.int c), .sh (.int r), j7], []⟩ ∧ ds3.length ≤ ds2.length + pre'.length ∧ j7.nlk = true) (l := none) (E1 := ⟨[.sh (.scr ns), .sh (.int m), .ow (.lst (ds2.map .int)), .sh (.int z2), .sh (.int k), .sh (.int c), .sh (.int r), j7], []⟩)
          (evI_rng (n := 60) (by walk_at "fi") (by omega)) ⟨ds2, r, j7, rfl, by simp, h7⟩ ?_ ?_
        · rintro pre' k' post' E hx' ⟨ds3, r, j7, rfl, hd3, h7⟩
          have hpl' : pre'.length < 60 := by have := congrArg List.length hx'; simp at this; omega
          have hl3 : ds3.length < 16777216 := by omega
          unfold b2_law_draws
          by_cases hr : 0 < r
          · walk_at "fi"
            exact ⟨ds3 ++ [r.fmod 997], _, _, ⟨by simp, rfl, rfl⟩, by simp; omega, rfl⟩
          · walk_at "fi"
            exact ⟨ds3, _, _, ⟨rfl, rfl, rfl⟩, by omega, rfl⟩
        · rintro E' ⟨ds3, r, j7, rfl, hd3, h7⟩
          have h2 : ds3.length ≤ 100 * (pre.length + 1) := by simp at hd3 ⊢; omega
          simp only [cont_nx, WB_nil, Lp_nx]
          exact ⟨ds3, z2, _, _, _, j7, rfl, h2, rfl, rfl, rfl, h7⟩
      have hl : ds.length + 2 < 16777216 := by omega
      have hl1 : ds.length < 16777216 := by omega
      have hl2 : ds.length + 1 < 16777216 := by omega
      unfold b3_law_draws
      generalize hc : (if ns[k] < 0 then -ns[k] else ns[k]) = c
      by_cases h18 : 1000000000000000000 ≤ c
      · have hz : ds.length ≤ ds.length + 2 := by omega
        walk_at "fi"
      · walk_at "fi"
        have t1 := tail (ds ++ [c.fmod 997, (((z * 48271 + c.fmod 1000003 + ↑k).fmod 65537 * 69621 + 5).fmod 65521).fmod 997]) ((z * 48271 + c.fmod 1000003 + ↑k).fmod 65537) c 0 (by simp)
        rw [List.map_append] at t1
        exact t1
    · rintro E' ⟨ds, z, j4, j5, j6, j7, rfl, hd, h4, h5, h6, h7⟩
      rw [show ∀ X, unlock X none = X from fun _ => rfl, cont_nx, WB_cons]
      have hd : ds.length ≤ 6300 := by simp at hd; omega
      refine ws_for (fun (k : Nat) => D.int k) (List.range m) (I := fun pre' E' => ∃ (ds3 : List Int) (z : Int) (j4 : Sl), E' = ⟨[.sh (.scr ns), .sh (.int m), .ow (.lst (ds3.map .int)), .sh (.int z), j4, j5, j6, j7], []⟩ ∧ ds3.length ≤ ds.length + pre'.length ∧ j4.nlk = true) (l := none) (E1 := ⟨[.sh (.scr ns), .sh (.int m), .ow (.lst (ds.map .int)), .sh (.int z), j4, j5, j6, j7], []⟩)
          (evI_rng (n := m) (by walk_at "fi") (by omega)) ⟨ds, z, j4, rfl, by simp, h4⟩ ?_ ?_
      · rintro pre' k' post' E hx' ⟨ds3, z3, j4, rfl, hd3, h4⟩
        have hpl' : pre'.length < m := by have := congrArg List.length hx'; simp at this; omega
        have hl3 : ds3.length < 16777216 := by omega
        unfold b1_law_draws
        walk_at "fi"
        exact ⟨ds3 ++ [((z3 * 16807 + k' + 1).fmod 65537).fmod 997], _, _, ⟨by simp, rfl, rfl⟩, by simp; omega, rfl⟩
      · rintro E' ⟨ds3, z3, j4, rfl, hd3, h4⟩
        have e1 := cut_toI (ds3.map D.int) m
        walk_at "fi"
        exact ⟨ds3.take m, by simp⟩
  obtain ⟨r, ss, h, ⟨ds, rfl⟩, rfl⟩ := key
  exact ⟨ds, h⟩
/-! ### alike values -/
mutual
/-- data of numbers, texts, truth values, tuples, lists -/
def Gd : D → Bool
  | .non => true
  | .bl _ => true
  | .int _ => true
  | .str _ => true
  | .tup xs => Gds xs
  | .lst xs => Gds xs
  | _ => false
def Gds : List D → Bool
  | [] => true
  | x :: r => Gd x && Gds r
end
mutual
def sz : D → Nat
  | .tup xs => 1 + szs xs
  | .lst xs => 1 + szs xs
  | _ => 1
def szs : List D → Nat
  | [] => 0
  | x :: r => sz x + szs r
end
theorem szs_app : ∀ xs ys : List D, szs (xs ++ ys) = szs xs + szs ys
  | [], ys => by simp [szs]
  | x :: xs, ys => by rw [List.cons_append, szs, szs, szs_app xs ys]; omega
theorem sz_pos (d : D) : 1 ≤ sz d := by cases d <;> simp [sz] <;> omega
theorem szs_len : ∀ xs : List D, xs.length ≤ szs xs
  | [] => by simp [szs]
  | x :: xs => by have := szs_len xs; have := sz_pos x; rw [szs, List.length_cons]; omega
theorem Gds_mem : ∀ {xs : List D}, Gds xs = true → ∀ x ∈ xs, Gd x = true
  | [], _, x, h => by simp at h
  | y :: xs, h, x, hx => by
    unfold Gds at h
    rw [Bool.and_eq_true] at h
    rcases List.mem_cons.mp hx with rfl | hx
    · exact h.1
    · exact Gds_mem h.2 x hx
mutual
theorem py_gd : ∀ {d : D}, Gd d = true → ∃ p, d.py = some p
  | .non, _ => ⟨_, rfl⟩
  | .bl _, _ => ⟨_, rfl⟩
  | .int _, _ => ⟨_, rfl⟩
  | .str _, _ => ⟨_, rfl⟩
  | .tup xs, h => by
    unfold Gd at h
    obtain ⟨ps, e⟩ := pys_gd h
    exact ⟨.tuple ps, by unfold D.py; rw [e]; rfl⟩
  | .lst xs, h => by
    unfold Gd at h
    obtain ⟨ps, e⟩ := pys_gd h
    exact ⟨.list ps, by unfold D.py; rw [e]; rfl⟩
  | .dct _ _, h => by cases h
  | .set _, h => by cases h
  | .scr _, h => by cases h
  | .ty _, h => by cases h
theorem pys_gd : ∀ {ds : List D}, Gds ds = true → ∃ ps, D.pys ds = some ps
  | [], _ => ⟨[], rfl⟩
  | d :: ds, h => by
    unfold Gds at h
    simp only [Bool.and_eq_true] at h
    obtain ⟨p, e⟩ := py_gd h.1
    obtain ⟨ps, es⟩ := pys_gd h.2
    exact ⟨p :: ps, by unfold D.pys; rw [e, es]⟩
end
theorem pys_dup : ∀ {st : List D}, (∀ x ∈ st, Gd x = true) → ∃ ps, D.pys (st.map fun x => D.tup [x, x]) = some ps ∧ ps.length = st.length
  | [], _ => ⟨[], rfl, rfl⟩
  | x :: st, h => by
    obtain ⟨p, e⟩ := py_gd (h x (by simp))
    obtain ⟨ps, es, l⟩ := pys_dup (st := st) fun y hy => h y (by simp [hy])
    refine ⟨.tuple [p, p] :: ps, ?_, by simp [l]⟩
    rw [List.map_cons, D.pys, es]
    simp [D.py, D.pys, e]
theorem eqv_nil {xs : List D} {ps : List PyData} (h : D.pys xs = some ps) : D.eqv (.lst xs) (.lst []) = some xs.isEmpty := by
  have hl : ∀ {xs : List D} {ps : List PyData}, D.pys xs = some ps → xs.isEmpty = ps.isEmpty := by
    intro xs ps h
    cases xs with
    | nil => cases h; rfl
    | cons x xs =>
      unfold D.pys at h
      split at h
      · cases h; rfl
      · cases h
  unfold D.eqv
  simp only [D.py, h, D.pys, Option.map_some]
  have : min (PyData.depth (.list ps)) (PyData.depth (.list [])) ≤ 64 := by
    have : PyData.depth (.list []) ≤ 64 := by simp [PyData.depth, PyData.depthAll]
    omega
  rw [if_pos this, hl h]
  cases ps <;> simp [PyData.eqv, PyData.eqvAll]
theorem dup_range (xs : List D) : ((List.range xs.length).map fun k => D.tup [xs.getD k .non, xs.getD k .non]) = xs.map fun x => D.tup [x, x] := by
  refine List.ext_getElem (by simp) fun i h1 h2 => ?_
  simp at h1
  simp [List.getD_eq_getElem?_getD, List.getElem?_eq_getElem h1]
def k1_law_same : CE := (.cmpV (.tup (.cons (.idx (.var 3) (.var 6)) (.cons (.idx (.var 4) (.var 6)) .nil))) (.nm 6) 4 .nil [6])
def k2_law_same : CE := (.cmpV (.tup (.cons (.idx (.var 5) (.var 6)) (.cons (.var 6) .nil))) (.nm 6) 4 .nil [6])
def k3_law_same : CE := (.cmpV (.tup (.cons (.var 6) (.cons (.var 6) .nil))) (.nm 6) 3 .nil [6])
def k4_law_same : CE := (.cmpV (.var 6) (.nm 6) 4 (.cons (.op2 .nin (.var 6) (.var 3)) .nil) [6])
def k5_law_same : CE := (.cmp (.tup (.cons (.idx (.var 3) (.var 7)) (.cons (.idx (.var 4) (.var 7)) .nil))) (.mk (.nm 7) (.rng1 (.blt .len (.cons (.var 4) .nil))) .nil) [7])
def o1_law_same : CB := (.cons (.ite (.or (.op2 .ne (.blt .isinst (.cons (.var 3) (.cons (.con (.ty "bool")) .nil))) (.blt .isinst (.cons (.var 4) (.cons (.con (.ty "bool")) .nil)))) (.or (.op2 .ne (.blt .isinst (.cons (.var 3) (.cons (.con (.ty "int")) .nil))) (.blt .isinst (.cons (.var 4) (.cons (.con (.ty "int")) .nil)))) (.or (.op2 .ne (.blt .isinst (.cons (.var 3) (.cons (.con (.ty "str")) .nil))) (.blt .isinst (.cons (.var 4) (.cons (.con (.ty "str")) .nil)))) (.op2 .ne (.var 3) (.var 4))))) (.cons (.ret (.con (.bl false))) .nil) .nil) .nil)
def o2_law_same : CB := (.cons (.ite (.or (.blt .isinst (.cons (.var 4) (.cons (.con (.ty "tuple")) .nil))) (.blt .isinst (.cons (.var 4) (.cons (.con (.ty "list")) .nil)))) (.cons (.ite (.or (.op2 .ne (.blt .isinst (.cons (.var 3) (.cons (.con (.ty "tuple")) .nil))) (.blt .isinst (.cons (.var 4) (.cons (.con (.ty "tuple")) .nil)))) (.or (.op2 .ne (.blt .isinst (.cons (.var 3) (.cons (.con (.ty "list")) .nil))) (.blt .isinst (.cons (.var 4) (.cons (.con (.ty "list")) .nil)))) (.op2 .ne (.blt .len (.cons (.var 3) .nil)) (.blt .len (.cons (.var 4) .nil))))) (.cons (.ret (.con (.bl false))) .nil) .nil) (.cons (.ex (.mut .extend 2 (.cons k5_law_same .nil))) .nil)) o1_law_same) .nil)
def b1_law_same : CB := (.cons (.asg (.tp [3, 4]) (.mut .pop 2 .nil)) (.cons (.ite (.blt .isinst (.cons (.var 4) (.cons (.con (.ty "dict")) .nil))) (.cons (.ite (.or (.not (.blt .isinst (.cons (.var 3) (.cons (.con (.ty "dict")) .nil)))) (.or (.op2 .ne (.blt .len (.cons (.var 3) .nil)) (.blt .len (.cons (.var 4) .nil))) (.op2 .ne k4_law_same (.lst .nil)))) (.cons (.ret (.con (.bl false))) .nil) .nil) (.cons (.asg (.nm 5) (.blt .dict (.cons k3_law_same .nil))) (.cons (.ex (.mut .extend 2 (.cons (.op2 .add k1_law_same k2_law_same) .nil))) .nil))) o2_law_same) .nil))
def c_law_same : CB := (.cons (.asg (.nm 2) (.lst (.cons (.tup (.cons (.var 0) (.cons (.var 1) .nil))) .nil))) (.cons (.whl (.op2 .ne (.var 2) (.lst .nil)) b1_law_same) (.cons (.ret (.con (.bl true))) .nil)))
def f_law_same : Fn := ⟨2, 8, [false, false], c_law_same⟩
theorem same_tup (n : Nat) (kk : CE) (a : D) (st xs ys : List D) (j5 j6 j7 : Sl) (hl5 : st.length + ys.length ≤ 16777216) (hk5 : evE (ctxOf T G n) kk ⟨[.sh a, .sh a, .ow (.lst st), .sh (.tup xs), .sh (.tup xs), j5, j6, j7], []⟩ = some (.ow (.lst ys), ⟨[.sh a, .sh a, .ow (.lst st), .sh (.tup xs), .sh (.tup xs), j5, j6, j7], []⟩)) (Q : Out → Prop) (hQ : Q (.nx ⟨[.sh a, .sh a, .ow (.lst (st ++ ys)), .sh (.tup xs), .sh (.tup xs), j5, j6, j7], []⟩)) : WB (ctxOf T G n) (.cons (.ite (.or (.blt .isinst (.cons (.var 4) (.cons (.con (.ty "tuple")) .nil))) (.blt .isinst (.cons (.var 4) (.cons (.con (.ty "list")) .nil)))) (.cons (.ite (.or (.op2 .ne (.blt .isinst (.cons (.var 3) (.cons (.con (.ty "tuple")) .nil))) (.blt .isinst (.cons (.var 4) (.cons (.con (.ty "tuple")) .nil)))) (.or (.op2 .ne (.blt .isinst (.cons (.var 3) (.cons (.con (.ty "list")) .nil))) (.blt .isinst (.cons (.var 4) (.cons (.con (.ty "list")) .nil)))) (.op2 .ne (.blt .len (.cons (.var 3) .nil)) (.blt .len (.cons (.var 4) .nil))))) (.cons (.ret (.con (.bl false))) .nil) .nil) (.cons (.ex (.mut .extend 2 (.cons kk .nil))) .nil)) o1_law_same) .nil) ⟨[.sh a, .sh a, .ow (.lst st), .sh (.tup xs), .sh (.tup xs), j5, j6, j7], []⟩ Q := by
  have eb := eqv_bl
  walk_at "fi"
theorem same_lst (n : Nat) (kk : CE) (a : D) (st xs ys : List D) (j5 j6 j7 : Sl) (hl5 : st.length + ys.length ≤ 16777216) (hk5 : evE (ctxOf T G n) kk ⟨[.sh a, .sh a, .ow (.lst st), .sh (.lst xs), .sh (.lst xs), j5, j6, j7], []⟩ = some (.ow (.lst ys), ⟨[.sh a, .sh a, .ow (.lst st), .sh (.lst xs), .sh (.lst xs), j5, j6, j7], []⟩)) (Q : Out → Prop) (hQ : Q (.nx ⟨[.sh a, .sh a, .ow (.lst (st ++ ys)), .sh (.lst xs), .sh (.lst xs), j5, j6, j7], []⟩)) : WB (ctxOf T G n) (.cons (.ite (.or (.blt .isinst (.cons (.var 4) (.cons (.con (.ty "tuple")) .nil))) (.blt .isinst (.cons (.var 4) (.cons (.con (.ty "list")) .nil)))) (.cons (.ite (.or (.op2 .ne (.blt .isinst (.cons (.var 3) (.cons (.con (.ty "tuple")) .nil))) (.blt .isinst (.cons (.var 4) (.cons (.con (.ty "tuple")) .nil)))) (.or (.op2 .ne (.blt .isinst (.cons (.var 3) (.cons (.con (.ty "list")) .nil))) (.blt .isinst (.cons (.var 4) (.cons (.con (.ty "list")) .nil)))) (.op2 .ne (.blt .len (.cons (.var 3) .nil)) (.blt .len (.cons (.var 4) .nil))))) (.cons (.ret (.con (.bl false))) .nil) .nil) (.cons (.ex (.mut .extend 2 (.cons kk .nil))) .nil)) o1_law_same) .nil) ⟨[.sh a, .sh a, .ow (.lst st), .sh (.lst xs), .sh (.lst xs), j5, j6, j7], []⟩ Q := by
  have eb := eqv_bl
  walk_at "fi"
theorem run_same (hT : T "_law_same" = some f_law_same) (n : Nat) (a : D) (ha : Gd a = true) (hs : sz a ≤ 10000000) : run T G (n + 1) "_law_same" [(false, a), (false, a)] = some (.sh (.bl true), [.sh a, .sh a]) := by
  refine run_eq (fn := f_law_same) (E0 := ⟨[.sh a, .sh a, .un, .un, .un, .un, .un, .un], []⟩) hT rfl rfl ?_
  unfold f_law_same c_law_same
  walk_at "fi"
  refine ws_whl (I := fun k E' => ∃ (st : List D) (j3 j4 j5 j6 j7 : Sl), E' = ⟨[.sh a, .sh a, .ow (.lst (st.map fun x => D.tup [x, x])), j3, j4, j5, j6, j7], []⟩ ∧ k = szs st ∧ k ≤ sz a ∧ (∀ x ∈ st, Gd x = true) ∧ j3.nlk = true ∧ j4.nlk = true ∧ j5.nlk = true ∧ j6.nlk = true ∧ j7.nlk = true) (n := sz a)
    ⟨[a], .un, .un, .un, .un, .un, rfl, by simp [szs], Nat.le_refl _, by simpa using ha, rfl, rfl, rfl, rfl, rfl⟩ ?_
  rintro k E' ⟨st, j3, j4, j5, j6, j7, rfl, rfl, hk, hg, h3, h4, h5, h6, h7⟩
  obtain ⟨ps, hps, _⟩ := pys_dup hg
  have hq := eqv_nil hps
  refine ⟨.sh (.bl !st.isEmpty), ⟨[.sh a, .sh a, .ow (.lst (st.map fun x => D.tup [x, x])), j3, j4, j5, j6, j7], []⟩, !st.isEmpty, ?_, by simp [Env.vw, D.truth], fun hne => ?_, fun he => ?_⟩
  · walk_at "fi"
  · rcases List.eq_nil_or_concat st with rfl | ⟨st', x, rfl⟩
    · simp at hne
    · rw [List.concat_eq_append] at *
      have hgx : Gd x = true := hg x (by simp)
      have hg' : ∀ y ∈ st', Gd y = true := fun y hy => hg y (by simp [hy])
      have hsz : szs (st' ++ [x]) = szs st' + sz x := by rw [szs_app]; simp [szs]
      have hlast : ((st' ++ [x]).map fun x => D.tup [x, x]).getLast? = some (.tup [x, x]) := by simp
      have hdl : ((st' ++ [x]).map fun x => D.tup [x, x]).dropLast = st'.map fun x => D.tup [x, x] := by simp
      have hsl := szs_len st'
      rw [hsz] at hk ⊢
      clear hq hps hg hne
      have hkT : ∀ (xs : List D), xs.length ≤ 16777216 → evE (ctxOf T G n) k5_law_same ⟨[.sh a, .sh a, .ow (.lst (st'.map fun x => D.tup [x, x])), .sh (.tup xs), .sh (.tup xs), j5, j6, j7], []⟩ = some (.ow (.lst (xs.map fun x => D.tup [x, x])), ⟨[.sh a, .sh a, .ow (.lst (st'.map fun x => D.tup [x, x])), .sh (.tup xs), .sh (.tup xs), j5, j6, j7], []⟩) := by
        intro xs hxl
        unfold k5_law_same
        rw [← dup_range xs]
        refine cmp_map (fun (j : Nat) => D.int j) (fun k => D.tup [xs.getD k .non, xs.getD k .non]) (List.range xs.length) (l := none) (E1 := ⟨[.sh a, .sh a, .ow (.lst (st'.map fun x => D.tup [x, x])), .sh (.tup xs), .sh (.tup xs), j5, j6, j7], []⟩) (evI_rng (n := xs.length) ?_ hxl) rfl (fun j hj => ?_) (by rw [List.length_range]; exact hxl) rfl
        · walk_at "fi"
        have hj : j < xs.length := by simpa using hj
        have h2 : ix xs.length (j : Int) = some j := by unfold ix; rw [if_pos (by omega), if_pos (by omega)]; simp
        have h3 : xs[j]? = some xs[j] := List.getElem?_eq_getElem hj
        walk_at "fi"
      have hkL : ∀ (xs : List D), xs.length ≤ 16777216 → evE (ctxOf T G n) k5_law_same ⟨[.sh a, .sh a, .ow (.lst (st'.map fun x => D.tup [x, x])), .sh (.lst xs), .sh (.lst xs), j5, j6, j7], []⟩ = some (.ow (.lst (xs.map fun x => D.tup [x, x])), ⟨[.sh a, .sh a, .ow (.lst (st'.map fun x => D.tup [x, x])), .sh (.lst xs), .sh (.lst xs), j5, j6, j7], []⟩) := by
        intro xs hxl
        unfold k5_law_same
        rw [← dup_range xs]
        refine cmp_map (fun (j : Nat) => D.int j) (fun k => D.tup [xs.getD k .non, xs.getD k .non]) (List.range xs.length) (l := none) (E1 := ⟨[.sh a, .sh a, .ow (.lst (st'.map fun x => D.tup [x, x])), .sh (.lst xs), .sh (.lst xs), j5, j6, j7], []⟩) (evI_rng (n := xs.length) ?_ hxl) rfl (fun j hj => ?_) (by rw [List.length_range]; exact hxl) rfl
        · walk_at "fi"
        have hj : j < xs.length := by simpa using hj
        have h2 : ix xs.length (j : Int) = some j := by unfold ix; rw [if_pos (by omega), if_pos (by omega)]; simp
        have h3 : xs[j]? = some xs[j] := List.getElem?_eq_getElem hj
        walk_at "fi"
      unfold b1_law_same
      cases x with
      | non =>
        have h0 := eqv_non
        have := eqv_bl
        have hs1 : sz .non = 1 := rfl
        walk_at "fi"
        unfold o2_law_same
        walk_at "fi"
        unfold o1_law_same
        walk_at "fi"
        exact ⟨szs st', by omega, st', _, _, _, _, _, ⟨rfl, rfl, rfl, rfl, rfl, rfl⟩, rfl, by omega, hg', rfl, rfl, h5, h6, h7⟩
      | bl b =>
        have := eqv_bl
        have hs1 : sz (.bl b) = 1 := rfl
        walk_at "fi"
        unfold o2_law_same
        walk_at "fi"
        unfold o1_law_same
        walk_at "fi"
        exact ⟨szs st', by omega, st', _, _, _, _, _, ⟨rfl, rfl, rfl, rfl, rfl, rfl⟩, rfl, by omega, hg', rfl, rfl, h5, h6, h7⟩
      | int i =>
        have := eqv_bl
        have hs1 : sz (.int i) = 1 := rfl
        walk_at "fi"
        unfold o2_law_same
        walk_at "fi"
        unfold o1_law_same
        walk_at "fi"
        exact ⟨szs st', by omega, st', _, _, _, _, _, ⟨rfl, rfl, rfl, rfl, rfl, rfl⟩, rfl, by omega, hg', rfl, rfl, h5, h6, h7⟩
      | str s =>
        have := eqv_bl
        have hs1 : sz (.str s) = 1 := rfl
        walk_at "fi"
        unfold o2_law_same
        walk_at "fi"
        unfold o1_law_same
        walk_at "fi"
        exact ⟨szs st', by omega, st', _, _, _, _, _, ⟨rfl, rfl, rfl, rfl, rfl, rfl⟩, rfl, by omega, hg', rfl, rfl, h5, h6, h7⟩
      | tup xs =>
        have := eqv_bl
        walk_at "fi"
        have hgs : ∀ y ∈ st' ++ xs, Gd y = true := fun y hy => (List.mem_append.mp hy).elim (hg' y) (Gds_mem hgx y)
        have hsx : sz (.tup xs) = 1 + szs xs := by rw [sz]
        have hlx := szs_len xs
        have hk5 := hkT xs (by omega)
        have hl5 : st'.length + xs.length ≤ 16777216 := by omega
        refine same_tup n k5_law_same a _ xs _ j5 j6 j7 (by simp; omega) hk5 _ ?_
        rw [cont_nx, WB_nil, Lw_nx]
        exact ⟨szs (st' ++ xs), by rw [szs_app]; omega, st' ++ xs, _, _, _, _, _, by rw [List.map_append], rfl, by rw [szs_app]; omega, hgs, rfl, rfl, h5, h6, h7⟩
      | lst xs =>
        have := eqv_bl
        walk_at "fi"
        have hgs : ∀ y ∈ st' ++ xs, Gd y = true := fun y hy => (List.mem_append.mp hy).elim (hg' y) (Gds_mem hgx y)
        have hsx : sz (.lst xs) = 1 + szs xs := by rw [sz]
        have hlx := szs_len xs
        have hk5 := hkL xs (by omega)
        have hl5 : st'.length + xs.length ≤ 16777216 := by omega
        refine same_lst n k5_law_same a _ xs _ j5 j6 j7 (by simp; omega) hk5 _ ?_
        rw [cont_nx, WB_nil, Lw_nx]
        exact ⟨szs (st' ++ xs), by rw [szs_app]; omega, st' ++ xs, _, _, _, _, _, by rw [List.map_append], rfl, by rw [szs_app]; omega, hgs, rfl, rfl, h5, h6, h7⟩
      | dct _ _ => cases hgx
      | set _ => cases hgx
      | scr _ => cases hgx
      | ty _ => cases hgx
  · have : st = [] := by simpa using he
    subst this
    walk_at "fi"
end
end Fi
end

section
/-! FiZ: comprehensions that draw: what is made is a part of, or stands to, what is walked. Own work. -/
namespace Fi
open PySem L2
inductive Each2 {α β : Type} (R : α → β → Prop) : List α → List β → Prop where
  | nil : Each2 R [] []
  | cons {x : α} {y : β} {xs : List α} {ys : List β} : R x y → Each2 R xs ys → Each2 R (x :: xs) (y :: ys)
theorem Each2.length {α β : Type} {R : α → β → Prop} {xs : List α} {ys : List β} (h : Each2 R xs ys) : ys.length = xs.length := by
  induction h with
  | nil => rfl
  | cons _ _ ih => simp [ih]
theorem Each2.mem {α β : Type} {R : α → β → Prop} {xs : List α} {ys : List β} (h : Each2 R xs ys) : ∀ y ∈ ys, ∃ x ∈ xs, R x y := by
  induction h with
  | nil => simp
  | @cons x y xs ys r _ ih =>
    intro z hz
    rcases List.mem_cons.mp hz with rfl | hz
    · exact ⟨x, by simp, r⟩
    · obtain ⟨a, ha, hr⟩ := ih z hz
      exact ⟨a, by simp [ha], hr⟩
theorem cmpL_sub {α : Type} {f : D → Env → Option (Option D × Env)} {I : Env → Prop} (e g : α → D) : ∀ (xs : List α) (acc : List D) (E : Env), I E → (∀ x ∈ xs, ∀ E, I E → ∃ (b : Bool) (E' : Env), f (e x) E = some (if b = true then some (g x) else none, E') ∧ I E') → acc.length + xs.length ≤ bigLine →
    ∃ (ys : List α) (E' : Env), cmpL f (xs.map e) acc E = some (acc ++ ys.map g, E') ∧ I E' ∧ ys.Sublist xs
  | [], acc, E, hI, _, _ => ⟨[], E, by simp [cmpL], hI, .slnil⟩
  | x :: xs, acc, E, hI, h, hl => by
    obtain ⟨b, E1, h1, h2⟩ := h x (by simp) E hI
    have hlt : acc.length < bigLine := by simp at hl; omega
    rw [List.map_cons, cmpL, h1]
    cases b with
    | true =>
      obtain ⟨ys, E2, k1, k2, k3⟩ := cmpL_sub e g xs (acc ++ [g x]) E1 h2 (fun y hy => h y (by simp [hy])) (by simp at hl ⊢; omega)
      refine ⟨x :: ys, E2, ?_, k2, k3.cons₂ x⟩
      simp only [if_true, if_pos hlt]
      rw [k1]; simp
    | false =>
      obtain ⟨ys, E2, k1, k2, k3⟩ := cmpL_sub e g xs acc E1 h2 (fun y hy => h y (by simp [hy])) (by simp at hl ⊢; omega)
      refine ⟨ys, E2, ?_, k2, k3.cons x⟩
      simp only [Bool.false_eq_true, if_false]
      exact k1
theorem cmpL_rel {α β : Type} {f : D → Env → Option (Option D × Env)} {I : Env → Prop} {R : α → β → Prop} (e : α → D) (g : β → D) : ∀ (xs : List α) (acc : List D) (E : Env), I E → (∀ x ∈ xs, ∀ E, I E → ∃ (y : β) (E' : Env), f (e x) E = some (some (g y), E') ∧ I E' ∧ R x y) → acc.length + xs.length ≤ bigLine →
    ∃ (ys : List β) (E' : Env), cmpL f (xs.map e) acc E = some (acc ++ ys.map g, E') ∧ I E' ∧ Each2 R xs ys
  | [], acc, E, hI, _, _ => ⟨[], E, by simp [cmpL], hI, .nil⟩
  | x :: xs, acc, E, hI, h, hl => by
    obtain ⟨y, E1, h1, h2, h3⟩ := h x (by simp) E hI
    have hlt : acc.length < bigLine := by simp at hl; omega
    obtain ⟨ys, E2, k1, k2, k3⟩ := cmpL_rel e g xs (acc ++ [g y]) E1 h2 (fun y hy => h y (by simp [hy])) (by simp at hl ⊢; omega)
    refine ⟨y :: ys, E2, ?_, k2, .cons h3 k3⟩
    rw [List.map_cons, cmpL, h1]
    simp only [if_pos hlt]
    rw [k1]; simp
section
variable {C : Ctx} {E E1 : Env} {own : List Nat} {e : CE} {t : Tg} {it : IT} {cs : CEs} {l : Option (Nat × Bool)} {α β : Type}
theorem cmp_sub (ee g : α → D) (xs : List α) {I : Env → Prop} (h : evI C it E = some (xs.map ee, l, E1)) (h1 : (lkFree own l && ownOk E1 own) = true) (hI : I (wipeE E1 own)) (h2 : ∀ x ∈ xs, ∀ E2, I E2 → ∃ (b : Bool) (E3 : Env), turnF t (evT C cs) (evE C e) own (ee x) E2 = some (if b = true then some (g x) else none, E3) ∧ I E3) (hl : xs.length ≤ bigLine) :
    ∃ (ys : List α) (E3 : Env), evE C (.cmp e (.mk t it cs) own) E = some (.ow (.lst (ys.map g)), unlock (back E1 E3 own) l) ∧ I E3 ∧ ys.Sublist xs := by
  obtain ⟨ys, E3, k1, k2, k3⟩ := cmpL_sub (f := turnF t (evT C cs) (evE C e) own) (I := I) ee g xs [] (wipeE E1 own) hI h2 (by simpa using hl)
  refine ⟨ys, E3, ?_, k2, k3⟩
  rw [evE, h]
  simp only [h1, if_true]
  rw [k1]; rfl
theorem cmp_rel (ee : α → D) (g : β → D) (R : α → β → Prop) (xs : List α) {I : Env → Prop} (h : evI C it E = some (xs.map ee, l, E1)) (h1 : (lkFree own l && ownOk E1 own) = true) (hI : I (wipeE E1 own)) (h2 : ∀ x ∈ xs, ∀ E2, I E2 → ∃ (y : β) (E3 : Env), turnF t (evT C cs) (evE C e) own (ee x) E2 = some (some (g y), E3) ∧ I E3 ∧ R x y) (hl : xs.length ≤ bigLine) :
    ∃ (ys : List β) (E3 : Env), evE C (.cmp e (.mk t it cs) own) E = some (.ow (.lst (ys.map g)), unlock (back E1 E3 own) l) ∧ I E3 ∧ Each2 R xs ys := by
  obtain ⟨ys, E3, k1, k2, k3⟩ := cmpL_rel (f := turnF t (evT C cs) (evE C e) own) (I := I) (R := R) ee g xs [] (wipeE E1 own) hI h2 (by simpa using hl)
  refine ⟨ys, E3, ?_, k2, k3⟩
  rw [evE, h]
  simp only [h1, if_true]
  rw [k1]; rfl
end
/-! ### sorting -/
section
open PyProof.Rows PySem.W
theorem toks_inj {x y : PyData} (h : alike x y = true) (e : keyToks x = keyToks y) : PyData.eqv x y = true := by
  cases hx : PyData.eqv x y with
  | true => rfl
  | false =>
    have h2 := (toks_eqv x y h).2 hx [] [.inl 0]
    rw [e] at h2
    rw [lex_pre, lex_irrefl] at h2
    simp [PyProof.Rows.lexLt] at h2
/-- two alike data that are not the same: one is ahead -/
theorem lt_of_le_ne {x y : PyData} (h : alike x y = true) (hne : PyData.eqv x y = false) (hle : dataLt y x = false) : dataLt x y = true := by
  cases hx : dataLt x y with
  | true => rfl
  | false =>
    have e : keyToks x = keyToks y := lex_total (O := itemOrd) _ _ hx hle
    rw [toks_inj h e] at hne
    cases hne
theorem leD_total : PySem.W.TotalLe leD := PySem.W.sortLe_total (listOrd itemOrd) false fun d => keyToks (encD d)
theorem pys_mem : ∀ {xs : List D} {ps : List PyData}, D.pys xs = some ps → ∀ x ∈ xs, ∃ p ∈ ps, x.py = some p
  | [], _, _, x, h => by simp at h
  | y :: ys, ps, h, x, hx => by
    unfold D.pys at h
    cases h1 : y.py with
    | none => rw [h1] at h; cases h
    | some p =>
      cases h2 : D.pys ys with
      | none => rw [h1, h2] at h; cases h
      | some qs =>
        rw [h1, h2] at h
        cases h
        rcases List.mem_cons.mp hx with rfl | hx
        · exact ⟨p, by simp, h1⟩
        · obtain ⟨q, hq, e⟩ := pys_mem h2 x hx
          exact ⟨q, by simp [hq], e⟩
/-- sorted distinct data ascend -/
theorem sort_pair {xs : List D} {ps : List PyData} (hp : D.pys xs = some ps) (ok : sortOk ps = true) (hpure : Pures xs = true) (hnd : xs.Nodup) :
    (xs.mergeSort leD).Pairwise fun a b => ordD (fun x y => dataLt x y) a b = some (.sc (.bl true)) := by
  have hs : (xs.mergeSort leD).Pairwise fun a b => leD a b = true := sort_pairwise leD_total xs
  have hn : (xs.mergeSort leD).Pairwise (· ≠ ·) := (List.mergeSort_perm xs leD).nodup_iff.mpr hnd
  have hm : ∀ x ∈ xs.mergeSort leD, x ∈ xs := fun x h => (List.mergeSort_perm xs leD).mem_iff.mp h
  have hpm : ∀ x ∈ xs, Fi.Pure x = true := by
    clear hs hn hm hp hnd ok
    induction xs with
    | nil => simp
    | cons x xs ih =>
      unfold Pures at hpure
      rw [Bool.and_eq_true] at hpure
      intro y hy
      rcases List.mem_cons.mp hy with rfl | hy
      · exact hpure.1
      · exact ih hpure.2 y hy
  unfold sortOk at ok
  simp only [Bool.and_eq_true, List.all_eq_true, decide_eq_true_eq] at ok
  obtain ⟨⟨o1, o2⟩, o3⟩ := ok
  refine List.Pairwise.imp_of_mem ?_ (hs.and hn)
  rintro a b ha hb ⟨h1, h2⟩
  obtain ⟨p, hp1, hp2⟩ := pys_mem hp a (hm a ha)
  obtain ⟨q, hq1, hq2⟩ := pys_mem hp b (hm b hb)
  have hal := o1 p hp1 q hq1
  have hne : PyData.eqv p q = false := by
    cases hx : PyData.eqv p q with
    | false => rfl
    | true => exact absurd ((eqv_iff (hpm a (hm a ha)) (hpm b (hm b hb)) hp2 hq2).mp hx) h2
  have hle : dataLt q p = false := by
    have h1 : (!(PyProof.Rows.lexLt itemOrd (keyToks (encD b)) (keyToks (encD a)))) = true := h1
    unfold encD at h1
    rw [hp2, hq2] at h1
    simpa [dataLt] using h1
  have hnn : notNone p = true := by
    rw [Bool.or_eq_true, List.all_eq_true, List.all_eq_true] at o2
    rcases o2 with o | o
    · have := o p hp1; cases p <;> simp [tupHead] at this <;> rfl
    · have := o p hp1; cases p <;> simp [plainKey] at this <;> rfl
  unfold ordD
  rw [hp2, hq2]
  simp only
  have := o3 p hp1
  rw [if_pos ⟨hal, hnn, by omega⟩, lt_of_le_ne hal hne hle]
theorem pys_txts : ∀ ts : List Txt, D.pys (ts.map .str) = some (ts.map fun t => PyData.str ⟨t.toArray⟩)
  | [] => by unfold D.pys; rfl
  | t :: ts => by rw [List.map_cons]; unfold D.pys; rw [pys_txts ts]; unfold D.py; rfl
theorem sortOk_txts (ts : List Txt) : sortOk (ts.map fun t => PyData.str ⟨t.toArray⟩) = true := by
  unfold sortOk
  simp only [Bool.and_eq_true, Bool.or_eq_true, List.all_eq_true, List.mem_map, decide_eq_true_eq]
  refine ⟨⟨?_, .inr ?_⟩, ?_⟩
  · rintro _ ⟨a, _, rfl⟩ _ ⟨b, _, rfl⟩; rfl
  · rintro _ ⟨a, _, rfl⟩; rfl
  · rintro _ ⟨a, _, rfl⟩; unfold PyData.depth; omega
/-- sorted texts -/
theorem sort_txt (ts : List Txt) (hn : ts.Nodup) : ∃ us : List Txt, sortC (ts.map .str) = some (.fr (.lst (us.map .str))) ∧ us.Perm ts ∧ us.Pairwise (· < ·) := by
  have e : (ts.mergeSort fun a b => leD (.str a) (.str b)).map D.str = (ts.map D.str).mergeSort leD := List.map_mergeSort fun _ _ _ _ => rfl
  refine ⟨ts.mergeSort fun a b => leD (.str a) (.str b), ?_, List.mergeSort_perm _ _, ?_⟩
  · unfold sortC
    rw [pys_txts, Option.bind_some, if_pos (sortOk_txts ts), e]
  · have hpu : Pures (ts.map D.str) = true := by
      clear hn e
      induction ts with
      | nil => rfl
      | cons t ts ih => rw [List.map_cons]; unfold Pures; rw [ih]; rfl
    have h := sort_pair (pys_txts ts) (sortOk_txts ts) hpu (by
      unfold List.Nodup at hn ⊢
      exact List.pairwise_map.mpr (hn.imp fun ne e => ne (by cases e; rfl)))
    rw [← e, List.pairwise_map] at h
    refine h.imp fun {a b} hab => ?_
    unfold ordD at hab
    simp only [D.py] at hab
    split at hab
    · rw [dataLt_str] at hab
      simpa using hab
    · cases hab
end
/-! ### joined texts -/
theorem txts_map : ∀ ts : List Txt, txts (ts.map .str) = some ts
  | [] => rfl
  | t :: ts => by rw [List.map_cons]; unfold txts; rw [txts_map ts]; rfl
theorem join_ok (s : Txt) (ts : List Txt) (h : (ts.map List.length).sum + ts.length * s.length ≤ 16777216) : joinB (.str s) [.lst (ts.map .str)] = some (.sc (.str (joinT s ts))) := by
  show ((txts (ts.map .str)).bind fun ts => _) = _
  rw [txts_map, Option.bind_some]
  exact if_pos h
theorem joinT_len (s : Txt) : ∀ ts : List Txt, (joinT s ts).length ≤ (ts.map List.length).sum + ts.length * s.length
  | [] => by simp [joinT]
  | [p] => by simp [joinT]
  | p :: q :: r => by
    have := joinT_len s (q :: r)
    unfold joinT
    simp only [List.length_append, List.map_cons, List.sum_cons, List.length_cons] at this ⊢
    have e : (r.length + 1 + 1) * s.length = (r.length + 1) * s.length + s.length := by rw [Nat.add_mul (r.length + 1) 1, Nat.one_mul]
    omega
theorem cut_map {α : Type} (f : α → D) (xs : List α) (lo hi : Option Int) : cut (xs.map f) lo hi = (cut xs lo hi).map f := by
  unfold cut
  rw [List.length_map, List.map_take, List.map_drop]
theorem cut_sub {α : Type} (xs : List α) (lo hi : Option Int) : (cut xs lo hi).Sublist xs := by
  unfold cut
  exact (List.take_sublist _ _).trans (List.drop_sublist _ _)
end Fi
end

section
namespace K56
open PySem PySem.Spec L2 Fi
/-! row_of: ground=0 sense=1 own=2 -/
def b1_row_of : CB := (.cons (.ite (.op2 .eq (.idx (.var 2) (.con (.int 1))) (.var 1)) (.cons (.ret (.var 2)) .nil) .nil) .nil)
def c_row_of : CB := (.cons (.for (.nm 2) (.seq (.var 0)) b1_row_of) (.cons (.ret (.con .non)) .nil))
def f_row_of : Fn := ⟨2, 3, [false, false], c_row_of⟩
/-! kind_of: ground=0 sense=1 own=2 -/
def c_kind_of : CB := (.cons (.asg (.nm 2) (.call "row_of" (.cons (.var 0) (.cons (.var 1) .nil)))) (.cons (.ret (.ifx (.op2 .isn (.var 2) (.con .non)) (.idx (.var 2) (.con (.int 0))) (.con .non))) .nil))
def f_kind_of : Fn := ⟨2, 3, [false, false], c_kind_of⟩
/-! roles_of: ground=0 sense=1 own=2 -/
def c_roles_of : CB := (.cons (.asg (.nm 2) (.call "row_of" (.cons (.var 0) (.cons (.var 1) .nil)))) (.cons (.ret (.ifx (.and (.op2 .isn (.var 2) (.con .non)) (.op2 .eq (.idx (.var 2) (.con (.int 0))) (.con (.str [100, 111, 105, 110, 103])))) (.idx (.var 2) (.con (.int 2))) (.con .non))) .nil))
def f_roles_of : Fn := ⟨2, 3, [false, false], c_roles_of⟩
/-! gloss_of: ground=0 sense=1 own=2 -/
def c_gloss_of : CB := (.cons (.asg (.nm 2) (.call "row_of" (.cons (.var 0) (.cons (.var 1) .nil)))) (.cons (.ret (.ifx (.and (.op2 .isn (.var 2) (.con .non)) (.op2 .eq (.idx (.var 2) (.con (.int 0))) (.con (.str [103, 108, 111, 115, 115])))) (.idx (.var 2) (.con (.int 2))) (.con .non))) .nil))
def f_gloss_of : Fn := ⟨2, 3, [false, false], c_gloss_of⟩
/-! senses_of_kind: ground=0 kind=1 own=2 -/
def k1_senses_of_kind : CE := (.cmpV (.idx (.var 2) (.con (.int 1))) (.nm 2) 0 (.cons (.op2 .eq (.idx (.var 2) (.con (.int 0))) (.var 1)) .nil) [2])
def c_senses_of_kind : CB := (.cons (.ret (.blt .tuple (.cons k1_senses_of_kind .nil))) .nil)
def f_senses_of_kind : Fn := ⟨2, 3, [false, false], c_senses_of_kind⟩
/-! is_such: ground=0 model=1 thing=2 x=3 _=4 sense=5 qualities=6 mores=7 gloss=8 own=9 clause=10 -/
def k1_is_such : CE := (.cmpV (.call "true_of" (.cons (.var 0) (.cons (.var 1) (.cons (.var 10) (.cons (.var 3) .nil))))) (.tp [4, 10]) 7 .nil [4, 10])
def k2_is_such : CE := (.cmpV (.op2 .inn (.tup (.cons (.var 9) (.cons (.var 3) .nil))) (.idx (.var 1) (.con (.int 2)))) (.nm 9) 6 .nil [9])
def c_is_such : CB := (.cons (.asg (.tp [4, 5, 4, 4, 6, 7]) (.var 2)) (.cons (.asg (.nm 8) (.call "gloss_of" (.cons (.var 0) (.cons (.var 5) .nil)))) (.cons (.ite (.and (.op2 .isn (.var 8) (.con .non)) (.not (.call "is_such" (.cons (.var 0) (.cons (.var 1) (.cons (.var 8) (.cons (.var 3) .nil))))))) (.cons (.ret (.con (.bl false))) .nil) .nil) (.cons (.ite (.or (.and (.op2 .is (.var 8) (.con .non)) (.op2 .nin (.tup (.cons (.var 5) (.cons (.var 3) .nil))) (.idx (.var 1) (.con (.int 2))))) (.not (.blt .all (.cons k2_is_such .nil)))) (.cons (.ret (.con (.bl false))) .nil) .nil) (.cons (.ret (.blt .all (.cons k1_is_such .nil))) .nil)))))
def f_is_such : Fn := ⟨4, 11, [false, false, false, false], c_is_such⟩
/-! such_ones: ground=0 model=1 thing=2 x=3 -/
def k1_such_ones : CE := (.cmp (.var 3) (.mk (.nm 3) (.rng1 (.idx (.var 1) (.con (.int 1)))) (.cons (.call "is_such" (.cons (.var 0) (.cons (.var 1) (.cons (.var 2) (.cons (.var 3) .nil))))) .nil)) [3])
def c_such_ones : CB := (.cons (.ret (.blt .tuple (.cons k1_such_ones .nil))) .nil)
def f_such_ones : Fn := ⟨3, 4, [false, false, false], c_such_ones⟩
/-! individual_of: model=0 filler=1 x=2 -/
def c_individual_of : CB := (.cons (.ite (.op2 .eq (.idx (.var 1) (.con (.int 0))) (.con (.str [110, 97, 109, 101]))) (.cons (.ret (.idx (.blt .dict (.cons (.idx (.var 0) (.con (.int 3))) .nil)) (.idx (.var 1) (.con (.int 1))))) .nil) .nil) (.cons (.ite (.op2 .inn (.idx (.var 1) (.con (.int 0))) (.tup (.cons (.con (.str [115, 112, 101, 97, 107, 101, 114])) (.cons (.con (.str [104, 101, 97, 114, 101, 114])) .nil)))) (.cons (.ret (.ifx (.op2 .eq (.idx (.var 1) (.con (.int 0))) (.con (.str [115, 112, 101, 97, 107, 101, 114]))) (.idx (.var 0) (.con (.int 5))) (.idx (.var 0) (.con (.int 6))))) .nil) .nil) (.cons (.ret (.var 2)) .nil)))
def f_individual_of : Fn := ⟨3, 3, [false, false, false], c_individual_of⟩
/-! is_reached: filler=0 such=1 so=2 _=3 number=4 fixed=5 -/
def c_is_reached : CB := (.cons (.asg (.tp [3, 3, 4, 5, 3, 3]) (.var 0)) (.cons (.ite (.op2 .eq (.var 5) (.con (.str [115, 111, 109, 101]))) (.cons (.ret (.op2 .ge (.blt .len (.cons (.var 2) .nil)) (.ifx (.op2 .eq (.var 4) (.con (.str [109, 97, 110, 121]))) (.con (.int 2)) (.con (.int 1))))) .nil) .nil) (.cons (.ite (.op2 .inn (.var 5) (.tup (.cons (.con (.str [101, 97, 99, 104])) (.cons (.con (.str [110, 111])) .nil)))) (.cons (.ret (.op2 .eq (.blt .len (.cons (.var 2) .nil)) (.ifx (.op2 .eq (.var 5) (.con (.str [101, 97, 99, 104]))) (.blt .len (.cons (.var 1) .nil)) (.con (.int 0))))) .nil) .nil) (.cons (.ret (.and (.ifx (.op2 .eq (.var 4) (.con (.str [109, 97, 110, 121]))) (.op2 .gt (.blt .len (.cons (.var 1) .nil)) (.con (.int 1))) (.op2 .eq (.blt .len (.cons (.var 1) .nil)) (.con (.int 1)))) (.op2 .eq (.blt .len (.cons (.var 2) .nil)) (.blt .len (.cons (.var 1) .nil))))) .nil))))
def f_is_reached : Fn := ⟨3, 6, [false, false, false], c_is_reached⟩
/-! goes_on: ground=0 model=1 clause=2 bound=3 x=4 _=5 time=6 doing=7 fillers=8 filler=9 such=10 so=11 y=12 -/
def k1_goes_on : CE := (.cmpV (.var 12) (.nm 12) 10 (.cons (.call "goes_on" (.cons (.var 0) (.cons (.var 1) (.cons (.var 2) (.cons (.op2 .add (.var 3) (.tup (.cons (.var 12) .nil))) (.cons (.var 4) .nil)))))) .nil) [12])
def c_goes_on : CB := (.cons (.asg (.tp [5, 5, 6, 5, 7, 8]) (.var 2)) (.cons (.ite (.op2 .eq (.blt .len (.cons (.var 3) .nil)) (.blt .len (.cons (.var 8) .nil))) (.cons (.ret (.op2 .inn (.tup (.cons (.var 6) (.cons (.var 7) (.cons (.var 3) .nil)))) (.idx (.var 1) (.con (.int 4))))) .nil) .nil) (.cons (.asg (.nm 9) (.idx (.var 8) (.blt .len (.cons (.var 3) .nil)))) (.cons (.ite (.op2 .ne (.idx (.var 9) (.con (.int 0))) (.con (.str [116, 104, 105, 110, 103]))) (.cons (.ret (.call "goes_on" (.cons (.var 0) (.cons (.var 1) (.cons (.var 2) (.cons (.op2 .add (.var 3) (.tup (.cons (.call "individual_of" (.cons (.var 1) (.cons (.var 9) (.cons (.var 4) .nil)))) .nil))) (.cons (.var 4) .nil))))))) .nil) .nil) (.cons (.asg (.nm 10) (.call "such_ones" (.cons (.var 0) (.cons (.var 1) (.cons (.var 9) .nil))))) (.cons (.asg (.nm 11) k1_goes_on) (.cons (.ret (.call "is_reached" (.cons (.var 9) (.cons (.var 10) (.cons (.var 11) .nil))))) .nil)))))))
def f_goes_on : Fn := ⟨5, 13, [false, false, false, false, false], c_goes_on⟩
/-! true_of: ground=0 model=1 clause=2 x=3 -/
def c_true_of : CB := (.cons (.ret (.op2 .eq (.call "goes_on" (.cons (.var 0) (.cons (.var 1) (.cons (.var 2) (.cons (.tup .nil) (.cons (.var 3) .nil)))))) (.op2 .eq (.idx (.var 2) (.con (.int 3))) (.con (.str [121, 101, 115]))))) .nil)
def f_true_of : Fn := ⟨4, 4, [false, false, false, false], c_true_of⟩
/-! true_in: ground=0 model=1 meaning=2 -/
def c_true_in : CB := (.cons (.ret (.call "true_of" (.cons (.var 0) (.cons (.var 1) (.cons (.var 2) (.cons (.con .non) .nil)))))) .nil)
def f_true_in : Fn := ⟨3, 3, [false, false, false], c_true_in⟩
/-! answer_in: ground=0 model=1 ask=2 x=3 -/
def k1_answer_in : CE := (.cmp (.var 3) (.mk (.nm 3) (.rng1 (.idx (.var 1) (.con (.int 1)))) (.cons (.call "true_of" (.cons (.var 0) (.cons (.var 1) (.cons (.var 2) (.cons (.var 3) .nil))))) .nil)) [3])
def c_answer_in : CB := (.cons (.ite (.op2 .inn (.tup (.cons (.con (.str [119, 104, 105, 99, 104])) .nil)) (.idx (.var 2) (.con (.int 5)))) (.cons (.ret (.tup (.cons (.con (.str [119, 104, 105, 99, 104])) (.cons (.blt .tuple (.cons k1_answer_in .nil)) .nil)))) .nil) .nil) (.cons (.ret (.ifx (.call "true_in" (.cons (.var 0) (.cons (.var 1) (.cons (.var 2) .nil)))) (.tup (.cons (.con (.str [121, 101, 115])) .nil)) (.tup (.cons (.con (.str [110, 111])) .nil)))) .nil))
def f_answer_in : Fn := ⟨3, 4, [false, false, false], c_answer_in⟩
/-! is_number: thing=0 -/
def c_is_number : CB := (.cons (.ret (.and (.blt .isinst (.cons (.var 0) (.cons (.con (.ty "int")) .nil))) (.and (.not (.blt .isinst (.cons (.var 0) (.cons (.con (.ty "bool")) .nil)))) (.op2 .ge (.var 0) (.con (.int 0)))))) .nil)
def f_is_number : Fn := ⟨1, 1, [false], c_is_number⟩
/-! is_ascending: row=0 k=1 -/
def k1_is_ascending : CE := (.cmp (.op2 .lt (.idx (.var 0) (.var 1)) (.idx (.var 0) (.op2 .add (.var 1) (.con (.int 1))))) (.mk (.nm 1) (.rng1 (.op2 .sub (.blt .len (.cons (.var 0) .nil)) (.con (.int 1)))) .nil) [1])
def c_is_ascending : CB := (.cons (.ret (.blt .all (.cons k1_is_ascending .nil))) .nil)
def f_is_ascending : Fn := ⟨1, 2, [false], c_is_ascending⟩
/-! is_individual: thing=0 many=1 -/
def c_is_individual : CB := (.cons (.ret (.and (.call "is_number" (.cons (.var 0) .nil)) (.op2 .lt (.var 0) (.var 1)))) .nil)
def f_is_individual : Fn := ⟨2, 2, [false, false], c_is_individual⟩
/-! is_pair: ground=0 thing=1 many=2 kinds=3 -/
def c_is_pair : CB := (.cons (.ite (.or (.not (.blt .isinst (.cons (.var 1) (.cons (.con (.ty "tuple")) .nil)))) (.or (.op2 .ne (.blt .len (.cons (.var 1) .nil)) (.con (.int 2))) (.not (.blt .isinst (.cons (.idx (.var 1) (.con (.int 0))) (.cons (.con (.ty "str")) .nil)))))) (.cons (.ret (.con (.bl false))) .nil) .nil) (.cons (.ret (.and (.op2 .inn (.call "kind_of" (.cons (.var 0) (.cons (.idx (.var 1) (.con (.int 0))) .nil))) (.var 3)) (.call "is_individual" (.cons (.idx (.var 1) (.con (.int 1))) (.cons (.var 2) .nil))))) .nil))
def f_is_pair : Fn := ⟨4, 4, [false, false, false, false], c_is_pair⟩
/-! are_pairs: ground=0 thing=1 many=2 kinds=3 own=4 -/
def k1_are_pairs : CE := (.cmpV (.call "is_pair" (.cons (.var 0) (.cons (.var 4) (.cons (.var 2) (.cons (.var 3) .nil))))) (.nm 4) 1 .nil [4])
def c_are_pairs : CB := (.cons (.ite (.or (.not (.blt .isinst (.cons (.var 1) (.cons (.con (.ty "tuple")) .nil)))) (.not (.blt .all (.cons k1_are_pairs .nil)))) (.cons (.ret (.con (.bl false))) .nil) .nil) (.cons (.ret (.call "is_ascending" (.cons (.var 1) .nil))) .nil))
def f_are_pairs : Fn := ⟨4, 5, [false, false, false, false], c_are_pairs⟩
/-! is_fact: ground=0 thing=1 many=2 own=3 -/
def k1_is_fact : CE := (.cmp (.call "is_individual" (.cons (.var 3) (.cons (.var 2) .nil))) (.mk (.nm 3) (.seq (.idx (.var 1) (.con (.int 2)))) .nil) [3])
def c_is_fact : CB := (.cons (.ite (.or (.not (.blt .isinst (.cons (.var 1) (.cons (.con (.ty "tuple")) .nil)))) (.or (.op2 .ne (.blt .len (.cons (.var 1) .nil)) (.con (.int 3))) (.or (.not (.blt .isinst (.cons (.idx (.var 1) (.con (.int 0))) (.cons (.con (.ty "str")) .nil)))) (.op2 .nin (.idx (.var 1) (.con (.int 0))) (.glo "TIMES"))))) (.cons (.ret (.con (.bl false))) .nil) .nil) (.cons (.ite (.or (.not (.blt .isinst (.cons (.idx (.var 1) (.con (.int 1))) (.cons (.con (.ty "str")) .nil)))) (.or (.op2 .ne (.call "kind_of" (.cons (.var 0) (.cons (.idx (.var 1) (.con (.int 1))) .nil))) (.con (.str [100, 111, 105, 110, 103]))) (.not (.blt .isinst (.cons (.idx (.var 1) (.con (.int 2))) (.cons (.con (.ty "tuple")) .nil)))))) (.cons (.ret (.con (.bl false))) .nil) .nil) (.cons (.ret (.and (.op2 .eq (.blt .len (.cons (.idx (.var 1) (.con (.int 2))) .nil)) (.blt .len (.cons (.call "roles_of" (.cons (.var 0) (.cons (.idx (.var 1) (.con (.int 1))) .nil))) .nil))) (.blt .all (.cons k1_is_fact .nil)))) .nil)))
def f_is_fact : Fn := ⟨3, 4, [false, false, false], c_is_fact⟩
/-! are_facts: ground=0 thing=1 many=2 own=3 -/
def k1_are_facts : CE := (.cmpV (.call "is_fact" (.cons (.var 0) (.cons (.var 3) (.cons (.var 2) .nil)))) (.nm 3) 1 .nil [3])
def c_are_facts : CB := (.cons (.ite (.or (.not (.blt .isinst (.cons (.var 1) (.cons (.con (.ty "tuple")) .nil)))) (.not (.blt .all (.cons k1_are_facts .nil)))) (.cons (.ret (.con (.bl false))) .nil) .nil) (.cons (.ret (.call "is_ascending" (.cons (.var 1) .nil))) .nil))
def f_are_facts : Fn := ⟨3, 4, [false, false, false], c_are_facts⟩
/-! are_all_names: ground=0 rows=1 row=2 -/
def k1_are_all_names : CE := (.cmpV (.idx (.var 2) (.con (.int 0))) (.nm 2) 1 .nil [2])
def c_are_all_names : CB := (.cons (.ret (.op2 .eq k1_are_all_names (.blt .sorted (.cons (.call "senses_of_kind" (.cons (.var 0) (.cons (.con (.str [110, 97, 109, 101])) .nil))) .nil)))) .nil)
def f_are_all_names : Fn := ⟨2, 3, [false, false], c_are_all_names⟩
/-! is_model: ground=0 thing=1 _=2 many=3 kinds=4 names=5 facts=6 speaker=7 hearer=8 -/
def c_is_model : CB := (.cons (.ite (.or (.not (.blt .isinst (.cons (.var 1) (.cons (.con (.ty "tuple")) .nil)))) (.or (.op2 .ne (.blt .len (.cons (.var 1) .nil)) (.con (.int 7))) (.or (.not (.blt .isinst (.cons (.idx (.var 1) (.con (.int 0))) (.cons (.con (.ty "str")) .nil)))) (.op2 .ne (.idx (.var 1) (.con (.int 0))) (.con (.str [109, 111, 100, 101, 108])))))) (.cons (.ret (.con (.bl false))) .nil) .nil) (.cons (.asg (.tp [2, 3, 4, 5, 6, 7, 8]) (.var 1)) (.cons (.ite (.or (.not (.call "is_number" (.cons (.var 3) .nil))) (.not (.chn .le .le (.con (.int 1)) (.var 3) (.glo "MOST_INDIVIDUALS")))) (.cons (.ret (.con (.bl false))) .nil) .nil) (.cons (.ite (.or (.not (.call "are_pairs" (.cons (.var 0) (.cons (.var 4) (.cons (.var 3) (.cons (.tup (.cons (.con (.str [116, 104, 105, 110, 103])) (.cons (.con (.str [113, 117, 97, 108, 105, 116, 121])) .nil))) .nil)))))) (.not (.call "are_pairs" (.cons (.var 0) (.cons (.var 5) (.cons (.var 3) (.cons (.tup (.cons (.con (.str [110, 97, 109, 101])) .nil)) .nil))))))) (.cons (.ret (.con (.bl false))) .nil) .nil) (.cons (.ite (.or (.not (.call "are_all_names" (.cons (.var 0) (.cons (.var 5) .nil)))) (.not (.call "are_facts" (.cons (.var 0) (.cons (.var 6) (.cons (.var 3) .nil)))))) (.cons (.ret (.con (.bl false))) .nil) .nil) (.cons (.ret (.and (.call "is_individual" (.cons (.var 7) (.cons (.var 3) .nil))) (.call "is_individual" (.cons (.var 8) (.cons (.var 3) .nil))))) .nil))))))
def f_is_model : Fn := ⟨2, 9, [false, false], c_is_model⟩
/-! _law_draws: script=0 many=1 draws=2 mixed=3 k=4 cell=5 rest=6 turn=7 -/
def b1_law_draws : CB := (.cons (.asg (.nm 3) (.op2 .mod (.blt .int (.cons (.op2 .add (.op2 .add (.op2 .mul (.var 3) (.con (.int 16807))) (.var 4)) (.con (.int 1))) .nil)) (.con (.int 65537)))) (.cons (.ex (.mut .append 2 (.cons (.op2 .mod (.blt .int (.cons (.var 3) .nil)) (.con (.int 997))) .nil))) .nil))
def b2_law_draws : CB := (.cons (.ite (.op2 .gt (.var 6) (.con (.int 0))) (.cons (.ex (.mut .append 2 (.cons (.op2 .mod (.blt .int (.cons (.var 6) .nil)) (.con (.int 997))) .nil))) (.cons (.asg (.nm 6) (.op2 .fdiv (.var 6) (.con (.int 997)))) .nil)) .nil) .nil)
def b3_law_draws : CB := (.cons (.asg (.nm 5) (.blt .abs (.cons (.blt .int (.cons (.idx (.var 0) (.var 4)) .nil)) .nil))) (.cons (.asg (.nm 3) (.op2 .mod (.blt .int (.cons (.op2 .add (.op2 .add (.op2 .mul (.var 3) (.con (.int 48271))) (.op2 .mod (.var 5) (.con (.int 1000003)))) (.var 4)) .nil)) (.con (.int 65537)))) (.cons (.asg (.nm 6) (.con (.int 0))) (.cons (.ite (.op2 .ge (.var 5) (.op2 .pow (.con (.int 10)) (.con (.int 18)))) (.cons (.asg (.nm 6) (.var 5)) .nil) (.cons (.ex (.mut .append 2 (.cons (.op2 .mod (.blt .int (.cons (.var 5) .nil)) (.con (.int 997))) .nil))) (.cons (.ex (.mut .append 2 (.cons (.op2 .mod (.op2 .mod (.blt .int (.cons (.op2 .add (.op2 .mul (.var 3) (.con (.int 69621))) (.con (.int 5))) .nil)) (.con (.int 65521))) (.con (.int 997))) .nil))) .nil))) (.cons (.for (.nm 7) (.rng1 (.con (.int 60))) b2_law_draws) .nil)))))
def c_law_draws : CB := (.cons (.asg (.nm 2) (.lst .nil)) (.cons (.asg (.nm 3) (.con (.int 7))) (.cons (.for (.nm 4) (.rng1 (.blt .len (.cons (.var 0) .nil))) b3_law_draws) (.cons (.for (.nm 4) (.rng1 (.var 1)) b1_law_draws) (.cons (.ret (.cut (.var 2) .no (.so (.var 1)))) .nil)))))
def f_law_draws : Fn := ⟨2, 8, [false, false], c_law_draws⟩
/-! _law_next: w=0 many=1 -/
def c_law_next : CB := (.cons (.augIx 0 (.con (.str [97, 116])) .add (.con (.int 1))) (.cons (.ite (.op2 .gt (.idx (.var 0) (.con (.str [97, 116]))) (.blt .len (.cons (.idx (.var 0) (.con (.str [100, 114, 97, 119, 115]))) .nil))) (.cons (.ret (.con (.int 0))) .nil) .nil) (.cons (.ret (.op2 .mod (.blt .int (.cons (.idx (.idx (.var 0) (.con (.str [100, 114, 97, 119, 115]))) (.op2 .sub (.idx (.var 0) (.con (.str [97, 116]))) (.con (.int 1)))) .nil)) (.var 1))) .nil)))
def f_law_next : Fn := ⟨2, 2, [true, false], c_law_next⟩
/-! _law_pick: w=0 rows=1 -/
def c_law_pick : CB := (.cons (.ret (.idx (.var 1) (.call "_law_next" (.cons (.var 0) (.cons (.blt .len (.cons (.var 1) .nil)) .nil))))) .nil)
def f_law_pick : Fn := ⟨2, 2, [true, false], c_law_pick⟩
/-! _law_same: seen=0 due=1 waiting=2 one=3 other=4 keys=5 key=6 k=7 -/
def k1_law_same : CE := (.cmpV (.tup (.cons (.idx (.var 3) (.var 6)) (.cons (.idx (.var 4) (.var 6)) .nil))) (.nm 6) 4 .nil [6])
def k2_law_same : CE := (.cmpV (.tup (.cons (.idx (.var 5) (.var 6)) (.cons (.var 6) .nil))) (.nm 6) 4 .nil [6])
def k3_law_same : CE := (.cmpV (.tup (.cons (.var 6) (.cons (.var 6) .nil))) (.nm 6) 3 .nil [6])
def k4_law_same : CE := (.cmpV (.var 6) (.nm 6) 4 (.cons (.op2 .nin (.var 6) (.var 3)) .nil) [6])
def k5_law_same : CE := (.cmp (.tup (.cons (.idx (.var 3) (.var 7)) (.cons (.idx (.var 4) (.var 7)) .nil))) (.mk (.nm 7) (.rng1 (.blt .len (.cons (.var 4) .nil))) .nil) [7])
def o1_law_same : CB := (.cons (.ite (.or (.op2 .ne (.blt .isinst (.cons (.var 3) (.cons (.con (.ty "bool")) .nil))) (.blt .isinst (.cons (.var 4) (.cons (.con (.ty "bool")) .nil)))) (.or (.op2 .ne (.blt .isinst (.cons (.var 3) (.cons (.con (.ty "int")) .nil))) (.blt .isinst (.cons (.var 4) (.cons (.con (.ty "int")) .nil)))) (.or (.op2 .ne (.blt .isinst (.cons (.var 3) (.cons (.con (.ty "str")) .nil))) (.blt .isinst (.cons (.var 4) (.cons (.con (.ty "str")) .nil)))) (.op2 .ne (.var 3) (.var 4))))) (.cons (.ret (.con (.bl false))) .nil) .nil) .nil)
def o2_law_same : CB := (.cons (.ite (.or (.blt .isinst (.cons (.var 4) (.cons (.con (.ty "tuple")) .nil))) (.blt .isinst (.cons (.var 4) (.cons (.con (.ty "list")) .nil)))) (.cons (.ite (.or (.op2 .ne (.blt .isinst (.cons (.var 3) (.cons (.con (.ty "tuple")) .nil))) (.blt .isinst (.cons (.var 4) (.cons (.con (.ty "tuple")) .nil)))) (.or (.op2 .ne (.blt .isinst (.cons (.var 3) (.cons (.con (.ty "list")) .nil))) (.blt .isinst (.cons (.var 4) (.cons (.con (.ty "list")) .nil)))) (.op2 .ne (.blt .len (.cons (.var 3) .nil)) (.blt .len (.cons (.var 4) .nil))))) (.cons (.ret (.con (.bl false))) .nil) .nil) (.cons (.ex (.mut .extend 2 (.cons k5_law_same .nil))) .nil)) o1_law_same) .nil)
def b1_law_same : CB := (.cons (.asg (.tp [3, 4]) (.mut .pop 2 .nil)) (.cons (.ite (.blt .isinst (.cons (.var 4) (.cons (.con (.ty "dict")) .nil))) (.cons (.ite (.or (.not (.blt .isinst (.cons (.var 3) (.cons (.con (.ty "dict")) .nil)))) (.or (.op2 .ne (.blt .len (.cons (.var 3) .nil)) (.blt .len (.cons (.var 4) .nil))) (.op2 .ne k4_law_same (.lst .nil)))) (.cons (.ret (.con (.bl false))) .nil) .nil) (.cons (.asg (.nm 5) (.blt .dict (.cons k3_law_same .nil))) (.cons (.ex (.mut .extend 2 (.cons (.op2 .add k1_law_same k2_law_same) .nil))) .nil))) o2_law_same) .nil))
def c_law_same : CB := (.cons (.asg (.nm 2) (.lst (.cons (.tup (.cons (.var 0) (.cons (.var 1) .nil))) .nil))) (.cons (.whl (.op2 .ne (.var 2) (.lst .nil)) b1_law_same) (.cons (.ret (.con (.bl true))) .nil)))
def f_law_same : Fn := ⟨2, 8, [false, false], c_law_same⟩
/-! _law_ground: w=0 rows=1 clause=2 -/
def c_law_ground : CB := (.cons (.asg (.nm 1) (.op2 .add (.op2 .add (.op2 .add (.lst (.cons (.tup (.cons (.con (.str [116, 104, 105, 110, 103])) (.cons (.con (.str [100, 111, 103])) .nil))) (.cons (.tup (.cons (.con (.str [116, 104, 105, 110, 103])) (.cons (.con (.str [115, 116, 111, 110, 101])) .nil))) .nil))) (.cut (.lst (.cons (.tup (.cons (.con (.str [116, 104, 105, 110, 103])) (.cons (.con (.str [116, 114, 101, 101])) .nil))) .nil)) .no (.so (.call "_law_next" (.cons (.var 0) (.cons (.con (.int 2)) .nil)))))) (.lst (.cons (.tup (.cons (.con (.str [113, 117, 97, 108, 105, 116, 121])) (.cons (.con (.str [111, 108, 100])) .nil))) (.cons (.tup (.cons (.con (.str [113, 117, 97, 108, 105, 116, 121])) (.cons (.con (.str [114, 101, 100])) .nil))) .nil)))) (.cut (.lst (.cons (.tup (.cons (.con (.str [113, 117, 97, 108, 105, 116, 121])) (.cons (.con (.str [98, 105, 103])) .nil))) .nil)) .no (.so (.call "_law_next" (.cons (.var 0) (.cons (.con (.int 2)) .nil))))))) (.cons (.asg (.nm 1) (.op2 .add (.op2 .add (.var 1) (.cut (.lst (.cons (.tup (.cons (.con (.str [110, 97, 109, 101])) (.cons (.con (.str [97, 110, 97])) .nil))) (.cons (.tup (.cons (.con (.str [110, 97, 109, 101])) (.cons (.con (.str [98, 111])) .nil))) .nil))) .no (.so (.op2 .add (.con (.int 1)) (.call "_law_next" (.cons (.var 0) (.cons (.con (.int 2)) .nil))))))) (.lst (.cons (.tup (.cons (.con (.str [100, 111, 105, 110, 103])) (.cons (.con (.str [115, 108, 101, 101, 112])) (.cons (.tup (.cons (.con (.str [87, 72, 79])) .nil)) .nil)))) (.cons (.tup (.cons (.con (.str [100, 111, 105, 110, 103])) (.cons (.con (.str [115, 101, 101])) (.cons (.tup (.cons (.con (.str [87, 72, 79])) (.cons (.con (.str [87, 72, 65, 84])) .nil))) .nil)))) .nil))))) (.cons (.ex (.mut .append 1 (.cons (.tup (.cons (.con (.str [100, 111, 105, 110, 103])) (.cons (.idx (.tup (.cons (.con (.str [103, 105, 118, 101])) (.cons (.con (.str [103, 111])) .nil))) (.call "_law_next" (.cons (.var 0) (.cons (.con (.int 2)) .nil)))) (.cons (.idx (.tup (.cons (.tup (.cons (.con (.str [87, 72, 79])) (.cons (.con (.str [87, 72, 65, 84])) (.cons (.con (.str [87, 72, 79, 77])) .nil)))) (.cons (.tup (.cons (.con (.str [87, 72, 79])) (.cons (.con (.str [87, 72, 79, 77])) .nil))) .nil))) (.call "_law_next" (.cons (.var 0) (.cons (.con (.int 2)) .nil)))) .nil)))) .nil))) (.cons (.ite (.op2 .eq (.call "_law_next" (.cons (.var 0) (.cons (.con (.int 2)) .nil))) (.con (.int 0))) (.cons (.ex (.mut .append 1 (.cons (.tup (.cons (.con (.str [103, 108, 111, 115, 115])) (.cons (.con (.str [112, 117, 112])) (.cons (.tup (.cons (.con (.str [116, 104, 105, 110, 103])) (.cons (.con (.str [100, 111, 103])) (.cons (.con (.str [111, 110, 101])) (.cons (.con (.str [115, 111, 109, 101])) (.cons (.tup (.cons (.con (.str [114, 101, 100])) .nil)) (.cons (.tup .nil) .nil))))))) .nil)))) .nil))) .nil) .nil) (.cons (.ite (.op2 .eq (.call "_law_next" (.cons (.var 0) (.cons (.con (.int 3)) .nil))) (.con (.int 0))) (.cons (.asg (.nm 2) (.tup (.cons (.con (.str [99, 108, 97, 117, 115, 101])) (.cons (.con (.str [109, 111, 114, 101])) (.cons (.con (.str [110, 111, 119])) (.cons (.con (.str [121, 101, 115])) (.cons (.con (.str [115, 101, 101])) (.cons (.tup (.cons (.tup (.cons (.con (.str [115, 101, 108, 102])) .nil)) (.cons (.tup (.cons (.con (.str [116, 104, 105, 110, 103])) (.cons (.con (.str [115, 116, 111, 110, 101])) (.cons (.con (.str [111, 110, 101])) (.cons (.con (.str [115, 111, 109, 101])) (.cons (.tup .nil) (.cons (.tup .nil) .nil))))))) .nil))) .nil)))))))) (.cons (.ex (.mut .append 1 (.cons (.tup (.cons (.con (.str [103, 108, 111, 115, 115])) (.cons (.con (.str [119, 97, 116, 99, 104, 101, 114])) (.cons (.tup (.cons (.con (.str [116, 104, 105, 110, 103])) (.cons (.con (.str [100, 111, 103])) (.cons (.con (.str [111, 110, 101])) (.cons (.con (.str [115, 111, 109, 101])) (.cons (.tup .nil) (.cons (.tup (.cons (.tup (.cons (.con (.str [87, 72, 79])) (.cons (.var 2) .nil))) .nil)) .nil))))))) .nil)))) .nil))) .nil)) .nil) (.cons (.ret (.blt .tuple (.cons (.var 1) .nil))) .nil))))))
def f_law_ground : Fn := ⟨1, 3, [true], c_law_ground⟩
/-! _law_of_kind: ground=0 kinds=1 own=2 -/
def k1_law_of_kind : CE := (.cmpV (.idx (.var 2) (.con (.int 1))) (.nm 2) 0 (.cons (.op2 .inn (.idx (.var 2) (.con (.int 0))) (.var 1)) .nil) [2])
def c_law_of_kind : CB := (.cons (.ret k1_law_of_kind) .nil)
def f_law_of_kind : Fn := ⟨2, 3, [false, false], c_law_of_kind⟩
/-! _law_text_of: filler=0 rows=1 own=2 -/
def k1_law_text_of : CE := (.cmp (.op2 .add (.con (.str [32, 124, 32])) (.call "_law_more_text" (.cons (.var 2) .nil))) (.mk (.nm 2) (.seq (.idx (.var 0) (.con (.int 5)))) .nil) [2])
def c_law_text_of : CB := (.cons (.ite (.op2 .ne (.idx (.var 0) (.con (.int 0))) (.con (.str [116, 104, 105, 110, 103]))) (.cons (.ret (.ifx (.op2 .eq (.idx (.var 0) (.con (.int 0))) (.con (.str [110, 97, 109, 101]))) (.op2 .add (.con (.str [64])) (.idx (.var 0) (.con (.int 1)))) (.idx (.dsp [.s [115, 112, 101, 97, 107, 101, 114], .s [104, 101, 97, 114, 101, 114], .s [119, 104, 105, 99, 104], .s [115, 101, 108, 102]] (.cons (.con (.str [73])) (.cons (.con (.str [121, 111, 117])) (.cons (.con (.str [119, 104, 105, 99, 104])) (.cons (.con (.str [115, 101, 108, 102])) .nil))))) (.idx (.var 0) (.con (.int 0)))))) .nil) .nil) (.cons (.asg (.nm 1) (.op2 .add (.lst (.cons (.idx (.var 0) (.con (.int 3))) (.cons (.idx (.var 0) (.con (.int 2))) (.cons (.idx (.var 0) (.con (.int 1))) .nil)))) (.blt .list (.cons (.idx (.var 0) (.con (.int 4))) .nil)))) (.cons (.ret (.op2 .add (.op2 .add (.op2 .add (.con (.str [40])) (.mth .join (.con (.str [32])) (.cons (.var 1) .nil))) (.mth .join (.con (.str [])) (.cons k1_law_text_of .nil))) (.con (.str [41])))) .nil)))
def f_law_text_of : Fn := ⟨1, 3, [false], c_law_text_of⟩
/-! _law_more_text: more=0 own=1 -/
def k1_law_more_text : CE := (.cmp (.call "_law_text_of" (.cons (.var 1) .nil)) (.mk (.nm 1) (.seq (.idx (.idx (.var 0) (.con (.int 1))) (.con (.int 5)))) .nil) [1])
def c_law_more_text : CB := (.cons (.ret (.op2 .add (.op2 .add (.idx (.var 0) (.con (.int 0))) (.con (.str [32]))) (.mth .join (.con (.str [32])) (.cons (.op2 .add (.blt .list (.cons (.cut (.idx (.var 0) (.con (.int 1))) (.so (.con (.int 2))) (.so (.con (.int 5)))) .nil)) k1_law_more_text) .nil)))) .nil)
def f_law_more_text : Fn := ⟨1, 2, [false], c_law_more_text⟩
/-! _law_thing: w=0 ground=1 room=2 able=3 qualities=4 mores=5 turn=6 more=7 sense=8 own=9 text=10 -/
def k1_law_thing : CE := (.cmp (.idx (.var 5) (.var 10)) (.mk (.nm 10) (.seq (.blt .sorted (.cons (.var 5) .nil))) .nil) [10])
def b1_law_thing : CB := (.cons (.ite (.and (.op2 .gt (.var 2) (.con (.int 0))) (.and (.op2 .gt (.idx (.var 0) (.con (.str [108, 101, 102, 116]))) (.con (.int 2))) (.op2 .eq (.call "_law_next" (.cons (.var 0) (.cons (.con (.int 4)) .nil))) (.con (.int 0))))) (.cons (.augIx 0 (.con (.str [108, 101, 102, 116])) .sub (.con (.int 3))) (.cons (.asg (.nm 7) (.call "_law_more" (.cons (.var 0) (.cons (.var 1) (.cons (.op2 .sub (.var 2) (.con (.int 1))) .nil))))) (.cons (.setIx 5 (.call "_law_more_text" (.cons (.var 7) .nil)) (.var 7)) .nil))) .nil) .nil)
def k2_law_thing : CE := (.cmp (.var 9) (.mk (.nm 9) (.seq (.call "_law_of_kind" (.cons (.var 1) (.cons (.tup (.cons (.con (.str [113, 117, 97, 108, 105, 116, 121])) .nil)) .nil)))) (.cons (.op2 .eq (.call "_law_next" (.cons (.var 0) (.cons (.con (.int 3)) .nil))) (.con (.int 0))) .nil)) [9])
def c_law_thing : CB := (.cons (.asg (.nm 3) (.call "_law_of_kind" (.cons (.var 1) (.cons (.tup (.cons (.con (.str [116, 104, 105, 110, 103])) (.cons (.con (.str [103, 108, 111, 115, 115])) .nil))) .nil)))) (.cons (.asg (.nm 4) (.blt .tuple (.cons (.blt .sorted (.cons (.cut k2_law_thing .no (.so (.idx (.var 0) (.con (.str [108, 101, 102, 116]))))) .nil)) .nil))) (.cons (.augIx 0 (.con (.str [108, 101, 102, 116])) .sub (.blt .len (.cons (.var 4) .nil))) (.cons (.asg (.nm 5) (.dct false .nil)) (.cons (.for (.nm 6) (.rng1 (.con (.int 2))) b1_law_thing) (.cons (.asg (.nm 8) (.idx (.var 3) (.call "_law_next" (.cons (.var 0) (.cons (.blt .len (.cons (.var 3) .nil)) .nil))))) (.cons (.ret (.tup (.cons (.con (.str [116, 104, 105, 110, 103])) (.cons (.var 8) (.cons (.idx (.tup (.cons (.con (.str [111, 110, 101])) (.cons (.con (.str [109, 97, 110, 121])) .nil))) (.call "_law_next" (.cons (.var 0) (.cons (.con (.int 2)) .nil)))) (.cons (.idx (.tup (.cons (.con (.str [116, 104, 105, 115])) (.cons (.con (.str [115, 111, 109, 101])) (.cons (.con (.str [101, 97, 99, 104])) (.cons (.con (.str [110, 111])) .nil))))) (.call "_law_next" (.cons (.var 0) (.cons (.con (.int 4)) .nil)))) (.cons (.var 4) (.cons (.blt .tuple (.cons k1_law_thing .nil)) .nil)))))))) .nil)))))))
def f_law_thing : Fn := ⟨3, 11, [true, false, false], c_law_thing⟩
/-! _law_more: w=0 ground=1 room=2 own=3 rows=4 k=5 fillers=6 role=7 -/
def k1_law_more : CE := (.cmp (.call "_law_filler" (.cons (.var 0) (.cons (.var 1) (.cons (.var 2) .nil)))) (.mk (.nm 7) (.seq (.idx (.var 3) (.con (.int 2)))) .nil) [7])
def k2_law_more : CE := (.cmpV (.var 3) (.nm 3) 1 (.cons (.op2 .eq (.idx (.var 3) (.con (.int 0))) (.con (.str [100, 111, 105, 110, 103]))) .nil) [3])
def c_law_more : CB := (.cons (.asg (.nm 4) k2_law_more) (.cons (.asg (.nm 3) (.idx (.var 4) (.call "_law_next" (.cons (.var 0) (.cons (.blt .len (.cons (.var 4) .nil)) .nil))))) (.cons (.asg (.nm 5) (.call "_law_next" (.cons (.var 0) (.cons (.blt .len (.cons (.idx (.var 3) (.con (.int 2))) .nil)) .nil)))) (.cons (.asg (.nm 6) k1_law_more) (.cons (.setIx 6 (.var 5) (.tup (.cons (.con (.str [115, 101, 108, 102])) .nil))) (.cons (.ret (.tup (.cons (.idx (.idx (.var 3) (.con (.int 2))) (.var 5)) (.cons (.tup (.cons (.con (.str [99, 108, 97, 117, 115, 101])) (.cons (.con (.str [109, 111, 114, 101])) (.cons (.idx (.tup (.cons (.con (.str [112, 97, 115, 116])) (.cons (.con (.str [110, 111, 119])) (.cons (.con (.str [108, 97, 116, 101, 114])) .nil)))) (.call "_law_next" (.cons (.var 0) (.cons (.con (.int 3)) .nil)))) (.cons (.idx (.tup (.cons (.con (.str [121, 101, 115])) (.cons (.con (.str [110, 111])) .nil))) (.call "_law_next" (.cons (.var 0) (.cons (.con (.int 2)) .nil)))) (.cons (.idx (.var 3) (.con (.int 1))) (.cons (.blt .tuple (.cons (.var 6) .nil)) .nil))))))) .nil)))) .nil))))))
def f_law_more : Fn := ⟨3, 8, [true, false, false], c_law_more⟩
/-! _law_filler: w=0 ground=1 room=2 kind=3 able=4 -/
def c_law_filler : CB := (.cons (.asg (.nm 3) (.call "_law_next" (.cons (.var 0) (.cons (.con (.int 6)) .nil)))) (.cons (.ite (.op2 .eq (.var 3) (.con (.int 0))) (.cons (.ret (.idx (.tup (.cons (.tup (.cons (.con (.str [115, 112, 101, 97, 107, 101, 114])) .nil)) (.cons (.tup (.cons (.con (.str [104, 101, 97, 114, 101, 114])) .nil)) .nil))) (.call "_law_next" (.cons (.var 0) (.cons (.con (.int 2)) .nil))))) .nil) .nil) (.cons (.ite (.op2 .eq (.var 3) (.con (.int 1))) (.cons (.asg (.nm 4) (.call "_law_of_kind" (.cons (.var 1) (.cons (.tup (.cons (.con (.str [110, 97, 109, 101])) .nil)) .nil)))) (.cons (.ret (.tup (.cons (.con (.str [110, 97, 109, 101])) (.cons (.idx (.var 4) (.call "_law_next" (.cons (.var 0) (.cons (.blt .len (.cons (.var 4) .nil)) .nil)))) .nil)))) .nil)) .nil) (.cons (.ret (.call "_law_thing" (.cons (.var 0) (.cons (.var 1) (.cons (.var 2) .nil))))) .nil))))
def f_law_filler : Fn := ⟨3, 5, [true, false, false], c_law_filler⟩
/-! _law_meaning: w=0 ground=1 room=2 mood=3 own=4 rows=5 fillers=6 time=7 role=8 -/
def k1_law_meaning : CE := (.cmp (.call "_law_filler" (.cons (.var 0) (.cons (.var 1) (.cons (.var 2) .nil)))) (.mk (.nm 8) (.seq (.idx (.var 4) (.con (.int 2)))) .nil) [8])
def k2_law_meaning : CE := (.cmpV (.var 4) (.nm 4) 1 (.cons (.op2 .eq (.idx (.var 4) (.con (.int 0))) (.con (.str [100, 111, 105, 110, 103]))) .nil) [4])
def c_law_meaning : CB := (.cons (.setIx 0 (.con (.str [108, 101, 102, 116])) (.con (.int 8))) (.cons (.asg (.nm 3) (.idx (.tup (.cons (.con (.str [116, 101, 108, 108])) (.cons (.con (.str [116, 101, 108, 108])) (.cons (.con (.str [97, 115, 107])) (.cons (.con (.str [98, 105, 100])) .nil))))) (.call "_law_next" (.cons (.var 0) (.cons (.con (.int 4)) .nil))))) (.cons (.asg (.nm 5) k2_law_meaning) (.cons (.asg (.nm 4) (.idx (.var 5) (.call "_law_next" (.cons (.var 0) (.cons (.blt .len (.cons (.var 5) .nil)) .nil))))) (.cons (.asg (.nm 6) k1_law_meaning) (.cons (.ite (.and (.op2 .eq (.var 3) (.con (.str [97, 115, 107]))) (.op2 .eq (.call "_law_next" (.cons (.var 0) (.cons (.con (.int 2)) .nil))) (.con (.int 0)))) (.cons (.setIx 6 (.call "_law_next" (.cons (.var 0) (.cons (.blt .len (.cons (.var 6) .nil)) .nil))) (.tup (.cons (.con (.str [119, 104, 105, 99, 104])) .nil))) .nil) .nil) (.cons (.ite (.op2 .eq (.var 3) (.con (.str [98, 105, 100]))) (.cons (.setIx 6 (.con (.int 0)) (.tup (.cons (.con (.str [104, 101, 97, 114, 101, 114])) .nil))) .nil) .nil) (.cons (.asg (.nm 7) (.ifx (.op2 .eq (.var 3) (.con (.str [98, 105, 100]))) (.con (.str [110, 111, 119])) (.idx (.tup (.cons (.con (.str [112, 97, 115, 116])) (.cons (.con (.str [110, 111, 119])) (.cons (.con (.str [108, 97, 116, 101, 114])) .nil)))) (.call "_law_next" (.cons (.var 0) (.cons (.con (.int 3)) .nil)))))) (.cons (.ret (.tup (.cons (.con (.str [99, 108, 97, 117, 115, 101])) (.cons (.var 3) (.cons (.var 7) (.cons (.idx (.tup (.cons (.con (.str [121, 101, 115])) (.cons (.con (.str [110, 111])) .nil))) (.call "_law_next" (.cons (.var 0) (.cons (.con (.int 2)) .nil)))) (.cons (.idx (.var 4) (.con (.int 1))) (.cons (.blt .tuple (.cons (.var 6) .nil)) .nil)))))))) .nil)))))))))
def f_law_meaning : Fn := ⟨3, 9, [true, false, false], c_law_meaning⟩
/-! _law_model: w=0 ground=1 many=2 kinds=3 sense=4 names=5 facts=6 turn=7 own=8 rows=9 x=10 name=11 role=12 -/
def k1_law_model : CE := (.cmp (.call "_law_next" (.cons (.var 0) (.cons (.var 2) .nil))) (.mk (.nm 12) (.seq (.idx (.var 8) (.con (.int 2)))) .nil) [12])
def k2_law_model : CE := (.cmpV (.var 8) (.nm 8) 1 (.cons (.op2 .eq (.idx (.var 8) (.con (.int 0))) (.con (.str [100, 111, 105, 110, 103]))) .nil) [8])
def b1_law_model : CB := (.cons (.asg (.nm 9) k2_law_model) (.cons (.asg (.nm 8) (.call "_law_pick" (.cons (.var 0) (.cons (.var 9) .nil)))) (.cons (.setIx 6 (.tup (.cons (.call "_law_pick" (.cons (.var 0) (.cons (.lst (.cons (.con (.str [112, 97, 115, 116])) (.cons (.con (.str [110, 111, 119])) (.cons (.con (.str [108, 97, 116, 101, 114])) .nil)))) .nil))) (.cons (.idx (.var 8) (.con (.int 1))) (.cons (.blt .tuple (.cons k1_law_model .nil)) .nil)))) (.con (.bl true))) .nil)))
def k3_law_model : CE := (.cmp (.tup (.cons (.var 11) (.cons (.call "_law_next" (.cons (.var 0) (.cons (.var 2) .nil))) .nil))) (.mk (.nm 11) (.seq (.blt .sorted (.cons (.call "_law_of_kind" (.cons (.var 1) (.cons (.tup (.cons (.con (.str [110, 97, 109, 101])) .nil)) .nil))) .nil))) .nil) [11])
def k4_law_model : CE := (.cmp (.tup (.cons (.var 4) (.cons (.var 10) .nil))) (.mk (.nm 10) (.rng1 (.var 2)) (.cons (.op2 .eq (.call "_law_next" (.cons (.var 0) (.cons (.con (.int 2)) .nil))) (.con (.int 0))) .nil)) [10])
def b2_law_model : CB := (.cons (.asg (.nm 3) (.op2 .add (.var 3) k4_law_model)) .nil)
def c_law_model : CB := (.cons (.asg (.nm 2) (.op2 .add (.con (.int 1)) (.call "_law_next" (.cons (.var 0) (.cons (.con (.int 3)) .nil))))) (.cons (.asg (.nm 3) (.lst .nil)) (.cons (.for (.nm 4) (.seq (.blt .sorted (.cons (.call "_law_of_kind" (.cons (.var 1) (.cons (.tup (.cons (.con (.str [116, 104, 105, 110, 103])) (.cons (.con (.str [113, 117, 97, 108, 105, 116, 121])) .nil))) .nil))) .nil))) b2_law_model) (.cons (.asg (.nm 5) (.blt .tuple (.cons k3_law_model .nil))) (.cons (.asg (.nm 6) (.dct false .nil)) (.cons (.for (.nm 7) (.rng1 (.op2 .add (.con (.int 2)) (.call "_law_next" (.cons (.var 0) (.cons (.con (.int 9)) .nil))))) b1_law_model) (.cons (.ret (.tup (.cons (.con (.str [109, 111, 100, 101, 108])) (.cons (.var 2) (.cons (.blt .tuple (.cons (.var 3) .nil)) (.cons (.var 5) (.cons (.blt .tuple (.cons (.blt .sorted (.cons (.var 6) .nil)) .nil)) (.cons (.call "_law_next" (.cons (.var 0) (.cons (.var 2) .nil))) (.cons (.call "_law_next" (.cons (.var 0) (.cons (.var 2) .nil))) .nil))))))))) .nil)))))))
def f_law_model : Fn := ⟨2, 13, [true, false], c_law_model⟩
/-! _law_wider: w=0 ground=1 model=2 many=3 facts=4 turn=5 row=6 own=7 fact=8 role=9 -/
def k1_law_wider : CE := (.cmp (.call "_law_next" (.cons (.var 0) (.cons (.op2 .add (.var 3) (.con (.int 1))) .nil))) (.mk (.nm 9) (.seq (.idx (.var 7) (.con (.int 2)))) .nil) [9])
def k2_law_wider : CE := (.cmpV (.var 6) (.nm 6) 1 (.cons (.op2 .eq (.idx (.var 6) (.con (.int 0))) (.con (.str [100, 111, 105, 110, 103]))) .nil) [6])
def b1_law_wider : CB := (.cons (.asg (.nm 7) (.call "_law_pick" (.cons (.var 0) (.cons k2_law_wider .nil)))) (.cons (.asg (.nm 6) k1_law_wider) (.cons (.setIx 6 (.call "_law_next" (.cons (.var 0) (.cons (.blt .len (.cons (.var 6) .nil)) .nil))) (.var 3)) (.cons (.setIx 4 (.tup (.cons (.call "_law_pick" (.cons (.var 0) (.cons (.lst (.cons (.con (.str [112, 97, 115, 116])) (.cons (.con (.str [110, 111, 119])) (.cons (.con (.str [108, 97, 116, 101, 114])) .nil)))) .nil))) (.cons (.idx (.var 7) (.con (.int 1))) (.cons (.blt .tuple (.cons (.var 6) .nil)) .nil)))) (.con (.bl true))) .nil))))
def k3_law_wider : CE := (.cmp (.tup (.cons (.var 8) (.cons (.con (.bl true)) .nil))) (.mk (.nm 8) (.seq (.idx (.var 2) (.con (.int 4)))) .nil) [8])
def c_law_wider : CB := (.cons (.par [3, 4] (.cons (.idx (.var 2) (.con (.int 1))) (.cons (.blt .dict (.cons k3_law_wider .nil)) .nil))) (.cons (.for (.nm 5) (.rng1 (.con (.int 6))) b1_law_wider) (.cons (.ret (.tup (.cons (.con (.str [109, 111, 100, 101, 108])) (.cons (.op2 .add (.var 3) (.con (.int 1))) (.cons (.idx (.var 2) (.con (.int 2))) (.cons (.idx (.var 2) (.con (.int 3))) (.cons (.blt .tuple (.cons (.blt .sorted (.cons (.var 4) .nil)) .nil)) (.cons (.idx (.var 2) (.con (.int 5))) (.cons (.idx (.var 2) (.con (.int 6))) .nil))))))))) .nil)))
def f_law_wider : Fn := ⟨3, 10, [true, false, false], c_law_wider⟩
/-! law: script=0 w=1 time=2 ground=3 turn=4 model=5 meaning=6 wider=7 own=8 seen=9 due=10 x=11 -/
def k1_law : CE := (.cmp (.var 11) (.mk (.nm 11) (.seq (.idx (.var 9) (.con (.int 1)))) (.cons (.op2 .lt (.var 11) (.idx (.var 5) (.con (.int 1)))) .nil)) [11])
def o1_law : CB := (.cons (.ite (.not (.call "_law_same" (.cons (.call "true_in" (.cons (.var 3) (.cons (.var 7) (.cons (.var 6) .nil)))) (.cons (.call "true_in" (.cons (.var 3) (.cons (.var 5) (.cons (.var 6) .nil)))) .nil)))) (.cons (.ret (.con (.bl false))) .nil) .nil) .nil)
def b1_law : CB := (.cons (.ite (.and (.op2 .eq (.idx (.var 8) (.con (.int 0))) (.con (.str [116, 104, 105, 110, 103]))) (.not (.call "_law_same" (.cons (.call "such_ones" (.cons (.var 3) (.cons (.var 7) (.cons (.var 8) .nil)))) (.cons (.call "such_ones" (.cons (.var 3) (.cons (.var 5) (.cons (.var 8) .nil)))) .nil))))) (.cons (.ret (.con (.bl false))) .nil) .nil) .nil)
def b2_law : CB := (.cons (.par [5, 6] (.cons (.call "_law_model" (.cons (.var 1) (.cons (.var 3) .nil))) (.cons (.call "_law_meaning" (.cons (.var 1) (.cons (.var 3) (.cons (.call "_law_next" (.cons (.var 1) (.cons (.con (.int 2)) .nil))) .nil)))) .nil))) (.cons (.asg (.nm 7) (.call "_law_wider" (.cons (.var 1) (.cons (.var 3) (.cons (.var 5) .nil))))) (.cons (.ite (.not (.call "_law_same" (.cons (.tup (.cons (.call "is_model" (.cons (.var 3) (.cons (.var 5) .nil))) (.cons (.call "is_model" (.cons (.var 3) (.cons (.var 7) .nil))) .nil))) (.cons (.tup (.cons (.con (.bl true)) (.cons (.con (.bl true)) .nil))) .nil)))) (.cons (.ret (.con (.bl false))) .nil) .nil) (.cons (.for (.nm 8) (.seq (.idx (.var 6) (.con (.int 5)))) b1_law) (.cons (.ite (.op2 .inn (.tup (.cons (.con (.str [119, 104, 105, 99, 104])) .nil)) (.idx (.var 6) (.con (.int 5)))) (.cons (.par [9, 10] (.cons (.call "answer_in" (.cons (.var 3) (.cons (.var 7) (.cons (.var 6) .nil)))) (.cons (.call "answer_in" (.cons (.var 3) (.cons (.var 5) (.cons (.var 6) .nil)))) .nil))) (.cons (.ite (.or (.op2 .ne (.idx (.var 9) (.con (.int 0))) (.con (.str [119, 104, 105, 99, 104]))) (.not (.call "_law_same" (.cons (.blt .tuple (.cons k1_law .nil)) (.cons (.idx (.var 10) (.con (.int 1))) .nil))))) (.cons (.ret (.con (.bl false))) .nil) .nil) .nil)) o1_law) .nil)))))
def b3_law : CB := (.cons (.asg (.nm 3) (.call "_law_ground" (.cons (.var 1) .nil))) (.cons (.for (.nm 4) (.rng1 (.con (.int 4))) b2_law) .nil))
def c_law : CB := (.cons (.asg (.nm 1) (.dsp [.s [100, 114, 97, 119, 115], .s [97, 116], .s [108, 101, 102, 116]] (.cons (.call "_law_draws" (.cons (.var 0) (.cons (.con (.int 3000)) .nil))) (.cons (.con (.int 0)) (.cons (.con (.int 8)) .nil))))) (.cons (.for (.nm 2) (.rng1 (.con (.int 5))) b3_law) (.cons (.ret (.con (.bl true))) .nil)))
def f_law : Fn := ⟨1, 12, [false], c_law⟩
def tab : List (Str × Fn) := [(("row_of" : Str), f_row_of), (("kind_of" : Str), f_kind_of), (("roles_of" : Str), f_roles_of), (("gloss_of" : Str), f_gloss_of), (("senses_of_kind" : Str), f_senses_of_kind), (("is_such" : Str), f_is_such), (("such_ones" : Str), f_such_ones), (("individual_of" : Str), f_individual_of), (("is_reached" : Str), f_is_reached), (("goes_on" : Str), f_goes_on), (("true_of" : Str), f_true_of), (("true_in" : Str), f_true_in), (("answer_in" : Str), f_answer_in), (("is_number" : Str), f_is_number), (("is_ascending" : Str), f_is_ascending), (("is_individual" : Str), f_is_individual), (("is_pair" : Str), f_is_pair), (("are_pairs" : Str), f_are_pairs), (("is_fact" : Str), f_is_fact), (("are_facts" : Str), f_are_facts), (("are_all_names" : Str), f_are_all_names), (("is_model" : Str), f_is_model), (("_law_draws" : Str), f_law_draws), (("_law_next" : Str), f_law_next), (("_law_pick" : Str), f_law_pick), (("_law_same" : Str), f_law_same), (("_law_ground" : Str), f_law_ground), (("_law_of_kind" : Str), f_law_of_kind), (("_law_text_of" : Str), f_law_text_of), (("_law_more_text" : Str), f_law_more_text), (("_law_thing" : Str), f_law_thing), (("_law_more" : Str), f_law_more), (("_law_filler" : Str), f_law_filler), (("_law_meaning" : Str), f_law_meaning), (("_law_model" : Str), f_law_model), (("_law_wider" : Str), f_law_wider), (("law" : Str), f_law)]
def gl : List (Str × D) := [("TIMES", .tup [.str [112, 97, 115, 116], .str [110, 111, 119], .str [108, 97, 116, 101, 114]]), ("MOST_INDIVIDUALS", .int 4)]
def T : Str → Option Fn := fun f => tab.lookup f
def G : Str → Option D := fun x => gl.lookup x
theorem io_row_of (n : Nat) : (ctxOf T G n).io "row_of" = [false, false] := rfl
theorem io_kind_of (n : Nat) : (ctxOf T G n).io "kind_of" = [false, false] := rfl
theorem io_roles_of (n : Nat) : (ctxOf T G n).io "roles_of" = [false, false] := rfl
theorem io_gloss_of (n : Nat) : (ctxOf T G n).io "gloss_of" = [false, false] := rfl
theorem io_senses_of_kind (n : Nat) : (ctxOf T G n).io "senses_of_kind" = [false, false] := rfl
theorem io_is_such (n : Nat) : (ctxOf T G n).io "is_such" = [false, false, false, false] := rfl
theorem io_such_ones (n : Nat) : (ctxOf T G n).io "such_ones" = [false, false, false] := rfl
theorem io_individual_of (n : Nat) : (ctxOf T G n).io "individual_of" = [false, false, false] := rfl
theorem io_is_reached (n : Nat) : (ctxOf T G n).io "is_reached" = [false, false, false] := rfl
theorem io_goes_on (n : Nat) : (ctxOf T G n).io "goes_on" = [false, false, false, false, false] := rfl
theorem io_true_of (n : Nat) : (ctxOf T G n).io "true_of" = [false, false, false, false] := rfl
theorem io_true_in (n : Nat) : (ctxOf T G n).io "true_in" = [false, false, false] := rfl
theorem io_answer_in (n : Nat) : (ctxOf T G n).io "answer_in" = [false, false, false] := rfl
theorem io_is_number (n : Nat) : (ctxOf T G n).io "is_number" = [false] := rfl
theorem io_is_ascending (n : Nat) : (ctxOf T G n).io "is_ascending" = [false] := rfl
theorem io_is_individual (n : Nat) : (ctxOf T G n).io "is_individual" = [false, false] := rfl
theorem io_is_pair (n : Nat) : (ctxOf T G n).io "is_pair" = [false, false, false, false] := rfl
theorem io_are_pairs (n : Nat) : (ctxOf T G n).io "are_pairs" = [false, false, false, false] := rfl
theorem io_is_fact (n : Nat) : (ctxOf T G n).io "is_fact" = [false, false, false] := rfl
theorem io_are_facts (n : Nat) : (ctxOf T G n).io "are_facts" = [false, false, false] := rfl
theorem io_are_all_names (n : Nat) : (ctxOf T G n).io "are_all_names" = [false, false] := rfl
theorem io_is_model (n : Nat) : (ctxOf T G n).io "is_model" = [false, false] := rfl
theorem io_law_draws (n : Nat) : (ctxOf T G n).io "_law_draws" = [false, false] := rfl
theorem io_law_next (n : Nat) : (ctxOf T G n).io "_law_next" = [true, false] := rfl
theorem io_law_pick (n : Nat) : (ctxOf T G n).io "_law_pick" = [true, false] := rfl
theorem io_law_same (n : Nat) : (ctxOf T G n).io "_law_same" = [false, false] := rfl
theorem io_law_ground (n : Nat) : (ctxOf T G n).io "_law_ground" = [true] := rfl
theorem io_law_of_kind (n : Nat) : (ctxOf T G n).io "_law_of_kind" = [false, false] := rfl
theorem io_law_text_of (n : Nat) : (ctxOf T G n).io "_law_text_of" = [false] := rfl
theorem io_law_more_text (n : Nat) : (ctxOf T G n).io "_law_more_text" = [false] := rfl
theorem io_law_thing (n : Nat) : (ctxOf T G n).io "_law_thing" = [true, false, false] := rfl
theorem io_law_more (n : Nat) : (ctxOf T G n).io "_law_more" = [true, false, false] := rfl
theorem io_law_filler (n : Nat) : (ctxOf T G n).io "_law_filler" = [true, false, false] := rfl
theorem io_law_meaning (n : Nat) : (ctxOf T G n).io "_law_meaning" = [true, false, false] := rfl
theorem io_law_model (n : Nat) : (ctxOf T G n).io "_law_model" = [true, false] := rfl
theorem io_law_wider (n : Nat) : (ctxOf T G n).io "_law_wider" = [true, false, false] := rfl
theorem io_law (n : Nat) : (ctxOf T G n).io "law" = [false] := rfl
end K56
end

section
namespace K56
open PySem PySem.Spec L2 Fi
def at_ (i : Nat) : Stmt := PySem.Challenge.pw_meaningsled_k56_whole_individuals_of_no.main.body.getD i (.Pass ⟨0, 0, 0, 0⟩)
def fs : List (Str × Nat) := [(("row_of" : Str), 2), (("kind_of" : Str), 2), (("roles_of" : Str), 2), (("gloss_of" : Str), 2), (("senses_of_kind" : Str), 2), (("is_such" : Str), 4), (("such_ones" : Str), 3), (("individual_of" : Str), 3), (("is_reached" : Str), 3), (("goes_on" : Str), 5), (("true_of" : Str), 4), (("true_in" : Str), 3), (("answer_in" : Str), 3), (("is_number" : Str), 1), (("is_ascending" : Str), 1), (("is_individual" : Str), 2), (("is_pair" : Str), 4), (("are_pairs" : Str), 4), (("is_fact" : Str), 3), (("are_facts" : Str), 3), (("are_all_names" : Str), 2), (("is_model" : Str), 2), (("_law_draws" : Str), 2), (("_law_next" : Str), 2), (("_law_pick" : Str), 2), (("_law_same" : Str), 2), (("_law_ground" : Str), 1), (("_law_of_kind" : Str), 2), (("_law_text_of" : Str), 1), (("_law_more_text" : Str), 1), (("_law_thing" : Str), 3), (("_law_more" : Str), 3), (("_law_filler" : Str), 3), (("_law_meaning" : Str), 3), (("_law_model" : Str), 2), (("_law_wider" : Str), 3), (("law" : Str), 1)]
def n_row_of : List Str := ["ground", "sense", "own"]
def p_row_of : List Str := ["ground", "sense"]
theorem s_row_of : FnScope n_row_of p_row_of (defScope (at_ 1)) := ⟨rfl, rfl, rfl, by decide +kernel, rfl, by decide +kernel, by decide +kernel⟩
theorem t_row_of : trB n_row_of fs (defScope (at_ 1)).names (defScope (at_ 1)).names 60 (defBody (at_ 1)) = some c_row_of := by kernel_rfl
def n_kind_of : List Str := ["ground", "sense", "own"]
def p_kind_of : List Str := ["ground", "sense"]
theorem s_kind_of : FnScope n_kind_of p_kind_of (defScope (at_ 2)) := ⟨rfl, rfl, rfl, by decide +kernel, rfl, by decide +kernel, by decide +kernel⟩
theorem t_kind_of : trB n_kind_of fs (defScope (at_ 2)).names (defScope (at_ 2)).names 60 (defBody (at_ 2)) = some c_kind_of := by kernel_rfl
def n_roles_of : List Str := ["ground", "sense", "own"]
def p_roles_of : List Str := ["ground", "sense"]
theorem s_roles_of : FnScope n_roles_of p_roles_of (defScope (at_ 3)) := ⟨rfl, rfl, rfl, by decide +kernel, rfl, by decide +kernel, by decide +kernel⟩
theorem t_roles_of : trB n_roles_of fs (defScope (at_ 3)).names (defScope (at_ 3)).names 60 (defBody (at_ 3)) = some c_roles_of := by kernel_rfl
def n_gloss_of : List Str := ["ground", "sense", "own"]
def p_gloss_of : List Str := ["ground", "sense"]
theorem s_gloss_of : FnScope n_gloss_of p_gloss_of (defScope (at_ 4)) := ⟨rfl, rfl, rfl, by decide +kernel, rfl, by decide +kernel, by decide +kernel⟩
theorem t_gloss_of : trB n_gloss_of fs (defScope (at_ 4)).names (defScope (at_ 4)).names 60 (defBody (at_ 4)) = some c_gloss_of := by kernel_rfl
def n_senses_of_kind : List Str := ["ground", "kind", "own"]
def p_senses_of_kind : List Str := ["ground", "kind"]
theorem s_senses_of_kind : FnScope n_senses_of_kind p_senses_of_kind (defScope (at_ 5)) := ⟨rfl, rfl, rfl, by decide +kernel, rfl, by decide +kernel, by decide +kernel⟩
theorem t_senses_of_kind : trB n_senses_of_kind fs (defScope (at_ 5)).names (defScope (at_ 5)).names 60 (defBody (at_ 5)) = some c_senses_of_kind := by kernel_rfl
def n_is_such : List Str := ["ground", "model", "thing", "x", "_", "sense", "qualities", "mores", "gloss", "own", "clause"]
def p_is_such : List Str := ["ground", "model", "thing", "x"]
theorem s_is_such : FnScope n_is_such p_is_such (defScope (at_ 7)) := ⟨rfl, rfl, rfl, by decide +kernel, rfl, by decide +kernel, by decide +kernel⟩
theorem t_is_such : trB n_is_such fs (defScope (at_ 7)).names (defScope (at_ 7)).names 60 (defBody (at_ 7)) = some c_is_such := by kernel_rfl
def n_such_ones : List Str := ["ground", "model", "thing", "x"]
def p_such_ones : List Str := ["ground", "model", "thing"]
theorem s_such_ones : FnScope n_such_ones p_such_ones (defScope (at_ 8)) := ⟨rfl, rfl, rfl, by decide +kernel, rfl, by decide +kernel, by decide +kernel⟩
theorem t_such_ones : trB n_such_ones fs (defScope (at_ 8)).names (defScope (at_ 8)).names 60 (defBody (at_ 8)) = some c_such_ones := by kernel_rfl
def n_individual_of : List Str := ["model", "filler", "x"]
def p_individual_of : List Str := ["model", "filler", "x"]
theorem s_individual_of : FnScope n_individual_of p_individual_of (defScope (at_ 9)) := ⟨rfl, rfl, rfl, by decide +kernel, rfl, by decide +kernel, by decide +kernel⟩
theorem t_individual_of : trB n_individual_of fs (defScope (at_ 9)).names (defScope (at_ 9)).names 60 (defBody (at_ 9)) = some c_individual_of := by kernel_rfl
def n_is_reached : List Str := ["filler", "such", "so", "_", "number", "fixed"]
def p_is_reached : List Str := ["filler", "such", "so"]
theorem s_is_reached : FnScope n_is_reached p_is_reached (defScope (at_ 10)) := ⟨rfl, rfl, rfl, by decide +kernel, rfl, by decide +kernel, by decide +kernel⟩
theorem t_is_reached : trB n_is_reached fs (defScope (at_ 10)).names (defScope (at_ 10)).names 60 (defBody (at_ 10)) = some c_is_reached := by kernel_rfl
def n_goes_on : List Str := ["ground", "model", "clause", "bound", "x", "_", "time", "doing", "fillers", "filler", "such", "so", "y"]
def p_goes_on : List Str := ["ground", "model", "clause", "bound", "x"]
theorem s_goes_on : FnScope n_goes_on p_goes_on (defScope (at_ 11)) := ⟨rfl, rfl, rfl, by decide +kernel, rfl, by decide +kernel, by decide +kernel⟩
theorem t_goes_on : trB n_goes_on fs (defScope (at_ 11)).names (defScope (at_ 11)).names 60 (defBody (at_ 11)) = some c_goes_on := by kernel_rfl
def n_true_of : List Str := ["ground", "model", "clause", "x"]
def p_true_of : List Str := ["ground", "model", "clause", "x"]
theorem s_true_of : FnScope n_true_of p_true_of (defScope (at_ 12)) := ⟨rfl, rfl, rfl, by decide +kernel, rfl, by decide +kernel, by decide +kernel⟩
theorem t_true_of : trB n_true_of fs (defScope (at_ 12)).names (defScope (at_ 12)).names 60 (defBody (at_ 12)) = some c_true_of := by kernel_rfl
def n_true_in : List Str := ["ground", "model", "meaning"]
def p_true_in : List Str := ["ground", "model", "meaning"]
theorem s_true_in : FnScope n_true_in p_true_in (defScope (at_ 13)) := ⟨rfl, rfl, rfl, by decide +kernel, rfl, by decide +kernel, by decide +kernel⟩
theorem t_true_in : trB n_true_in fs (defScope (at_ 13)).names (defScope (at_ 13)).names 60 (defBody (at_ 13)) = some c_true_in := by kernel_rfl
def n_answer_in : List Str := ["ground", "model", "ask", "x"]
def p_answer_in : List Str := ["ground", "model", "ask"]
theorem s_answer_in : FnScope n_answer_in p_answer_in (defScope (at_ 14)) := ⟨rfl, rfl, rfl, by decide +kernel, rfl, by decide +kernel, by decide +kernel⟩
theorem t_answer_in : trB n_answer_in fs (defScope (at_ 14)).names (defScope (at_ 14)).names 60 (defBody (at_ 14)) = some c_answer_in := by kernel_rfl
def n_is_number : List Str := ["thing"]
def p_is_number : List Str := ["thing"]
theorem s_is_number : FnScope n_is_number p_is_number (defScope (at_ 16)) := ⟨rfl, rfl, rfl, by decide +kernel, rfl, by decide +kernel, by decide +kernel⟩
theorem t_is_number : trB n_is_number fs (defScope (at_ 16)).names (defScope (at_ 16)).names 60 (defBody (at_ 16)) = some c_is_number := by kernel_rfl
def n_is_ascending : List Str := ["row", "k"]
def p_is_ascending : List Str := ["row"]
theorem s_is_ascending : FnScope n_is_ascending p_is_ascending (defScope (at_ 17)) := ⟨rfl, rfl, rfl, by decide +kernel, rfl, by decide +kernel, by decide +kernel⟩
theorem t_is_ascending : trB n_is_ascending fs (defScope (at_ 17)).names (defScope (at_ 17)).names 60 (defBody (at_ 17)) = some c_is_ascending := by kernel_rfl
def n_is_individual : List Str := ["thing", "many"]
def p_is_individual : List Str := ["thing", "many"]
theorem s_is_individual : FnScope n_is_individual p_is_individual (defScope (at_ 21)) := ⟨rfl, rfl, rfl, by decide +kernel, rfl, by decide +kernel, by decide +kernel⟩
theorem t_is_individual : trB n_is_individual fs (defScope (at_ 21)).names (defScope (at_ 21)).names 60 (defBody (at_ 21)) = some c_is_individual := by kernel_rfl
def n_is_pair : List Str := ["ground", "thing", "many", "kinds"]
def p_is_pair : List Str := ["ground", "thing", "many", "kinds"]
theorem s_is_pair : FnScope n_is_pair p_is_pair (defScope (at_ 22)) := ⟨rfl, rfl, rfl, by decide +kernel, rfl, by decide +kernel, by decide +kernel⟩
theorem t_is_pair : trB n_is_pair fs (defScope (at_ 22)).names (defScope (at_ 22)).names 60 (defBody (at_ 22)) = some c_is_pair := by kernel_rfl
def n_are_pairs : List Str := ["ground", "thing", "many", "kinds", "own"]
def p_are_pairs : List Str := ["ground", "thing", "many", "kinds"]
theorem s_are_pairs : FnScope n_are_pairs p_are_pairs (defScope (at_ 23)) := ⟨rfl, rfl, rfl, by decide +kernel, rfl, by decide +kernel, by decide +kernel⟩
theorem t_are_pairs : trB n_are_pairs fs (defScope (at_ 23)).names (defScope (at_ 23)).names 60 (defBody (at_ 23)) = some c_are_pairs := by kernel_rfl
def n_is_fact : List Str := ["ground", "thing", "many", "own"]
def p_is_fact : List Str := ["ground", "thing", "many"]
theorem s_is_fact : FnScope n_is_fact p_is_fact (defScope (at_ 24)) := ⟨rfl, rfl, rfl, by decide +kernel, rfl, by decide +kernel, by decide +kernel⟩
theorem t_is_fact : trB n_is_fact fs (defScope (at_ 24)).names (defScope (at_ 24)).names 60 (defBody (at_ 24)) = some c_is_fact := by kernel_rfl
def n_are_facts : List Str := ["ground", "thing", "many", "own"]
def p_are_facts : List Str := ["ground", "thing", "many"]
theorem s_are_facts : FnScope n_are_facts p_are_facts (defScope (at_ 25)) := ⟨rfl, rfl, rfl, by decide +kernel, rfl, by decide +kernel, by decide +kernel⟩
theorem t_are_facts : trB n_are_facts fs (defScope (at_ 25)).names (defScope (at_ 25)).names 60 (defBody (at_ 25)) = some c_are_facts := by kernel_rfl
def n_are_all_names : List Str := ["ground", "rows", "row"]
def p_are_all_names : List Str := ["ground", "rows"]
theorem s_are_all_names : FnScope n_are_all_names p_are_all_names (defScope (at_ 26)) := ⟨rfl, rfl, rfl, by decide +kernel, rfl, by decide +kernel, by decide +kernel⟩
theorem t_are_all_names : trB n_are_all_names fs (defScope (at_ 26)).names (defScope (at_ 26)).names 60 (defBody (at_ 26)) = some c_are_all_names := by kernel_rfl
def n_is_model : List Str := ["ground", "thing", "_", "many", "kinds", "names", "facts", "speaker", "hearer"]
def p_is_model : List Str := ["ground", "thing"]
theorem s_is_model : FnScope n_is_model p_is_model (defScope (at_ 27)) := ⟨rfl, rfl, rfl, by decide +kernel, rfl, by decide +kernel, by decide +kernel⟩
theorem t_is_model : trB n_is_model fs (defScope (at_ 27)).names (defScope (at_ 27)).names 60 (defBody (at_ 27)) = some c_is_model := by kernel_rfl
def n_law_draws : List Str := ["script", "many", "draws", "mixed", "k", "cell", "rest", "turn"]
def p_law_draws : List Str := ["script", "many"]
theorem s_law_draws : FnScope n_law_draws p_law_draws (defScope (at_ 29)) := ⟨rfl, rfl, rfl, by decide +kernel, rfl, by decide +kernel, by decide +kernel⟩
theorem t_law_draws : trB n_law_draws fs (defScope (at_ 29)).names (defScope (at_ 29)).names 60 (defBody (at_ 29)) = some c_law_draws := by kernel_rfl
def n_law_next : List Str := ["w", "many"]
def p_law_next : List Str := ["w", "many"]
theorem s_law_next : FnScope n_law_next p_law_next (defScope (at_ 30)) := ⟨rfl, rfl, rfl, by decide +kernel, rfl, by decide +kernel, by decide +kernel⟩
theorem t_law_next : trB n_law_next fs (defScope (at_ 30)).names (defScope (at_ 30)).names 60 (defBody (at_ 30)) = some c_law_next := by kernel_rfl
def n_law_pick : List Str := ["w", "rows"]
def p_law_pick : List Str := ["w", "rows"]
theorem s_law_pick : FnScope n_law_pick p_law_pick (defScope (at_ 31)) := ⟨rfl, rfl, rfl, by decide +kernel, rfl, by decide +kernel, by decide +kernel⟩
theorem t_law_pick : trB n_law_pick fs (defScope (at_ 31)).names (defScope (at_ 31)).names 60 (defBody (at_ 31)) = some c_law_pick := by kernel_rfl
def n_law_same : List Str := ["seen", "due", "waiting", "one", "other", "keys", "key", "k"]
def p_law_same : List Str := ["seen", "due"]
theorem s_law_same : FnScope n_law_same p_law_same (defScope (at_ 32)) := ⟨rfl, rfl, rfl, by decide +kernel, rfl, by decide +kernel, by decide +kernel⟩
theorem t_law_same : trB n_law_same fs (defScope (at_ 32)).names (defScope (at_ 32)).names 60 (defBody (at_ 32)) = some c_law_same := by kernel_rfl
def n_law_ground : List Str := ["w", "rows", "clause"]
def p_law_ground : List Str := ["w"]
theorem s_law_ground : FnScope n_law_ground p_law_ground (defScope (at_ 33)) := ⟨rfl, rfl, rfl, by decide +kernel, rfl, by decide +kernel, by decide +kernel⟩
theorem t_law_ground : trB n_law_ground fs (defScope (at_ 33)).names (defScope (at_ 33)).names 60 (defBody (at_ 33)) = some c_law_ground := by kernel_rfl
def n_law_of_kind : List Str := ["ground", "kinds", "own"]
def p_law_of_kind : List Str := ["ground", "kinds"]
theorem s_law_of_kind : FnScope n_law_of_kind p_law_of_kind (defScope (at_ 34)) := ⟨rfl, rfl, rfl, by decide +kernel, rfl, by decide +kernel, by decide +kernel⟩
theorem t_law_of_kind : trB n_law_of_kind fs (defScope (at_ 34)).names (defScope (at_ 34)).names 60 (defBody (at_ 34)) = some c_law_of_kind := by kernel_rfl
def n_law_text_of : List Str := ["filler", "rows", "own"]
def p_law_text_of : List Str := ["filler"]
theorem s_law_text_of : FnScope n_law_text_of p_law_text_of (defScope (at_ 35)) := ⟨rfl, rfl, rfl, by decide +kernel, rfl, by decide +kernel, by decide +kernel⟩
theorem t_law_text_of : trB n_law_text_of fs (defScope (at_ 35)).names (defScope (at_ 35)).names 60 (defBody (at_ 35)) = some c_law_text_of := by kernel_rfl
def n_law_more_text : List Str := ["more", "own"]
def p_law_more_text : List Str := ["more"]
theorem s_law_more_text : FnScope n_law_more_text p_law_more_text (defScope (at_ 36)) := ⟨rfl, rfl, rfl, by decide +kernel, rfl, by decide +kernel, by decide +kernel⟩
theorem t_law_more_text : trB n_law_more_text fs (defScope (at_ 36)).names (defScope (at_ 36)).names 60 (defBody (at_ 36)) = some c_law_more_text := by kernel_rfl
def n_law_thing : List Str := ["w", "ground", "room", "able", "qualities", "mores", "turn", "more", "sense", "own", "text"]
def p_law_thing : List Str := ["w", "ground", "room"]
theorem s_law_thing : FnScope n_law_thing p_law_thing (defScope (at_ 37)) := ⟨rfl, rfl, rfl, by decide +kernel, rfl, by decide +kernel, by decide +kernel⟩
theorem t_law_thing : trB n_law_thing fs (defScope (at_ 37)).names (defScope (at_ 37)).names 60 (defBody (at_ 37)) = some c_law_thing := by kernel_rfl
def n_law_more : List Str := ["w", "ground", "room", "own", "rows", "k", "fillers", "role"]
def p_law_more : List Str := ["w", "ground", "room"]
theorem s_law_more : FnScope n_law_more p_law_more (defScope (at_ 38)) := ⟨rfl, rfl, rfl, by decide +kernel, rfl, by decide +kernel, by decide +kernel⟩
theorem t_law_more : trB n_law_more fs (defScope (at_ 38)).names (defScope (at_ 38)).names 60 (defBody (at_ 38)) = some c_law_more := by kernel_rfl
def n_law_filler : List Str := ["w", "ground", "room", "kind", "able"]
def p_law_filler : List Str := ["w", "ground", "room"]
theorem s_law_filler : FnScope n_law_filler p_law_filler (defScope (at_ 39)) := ⟨rfl, rfl, rfl, by decide +kernel, rfl, by decide +kernel, by decide +kernel⟩
theorem t_law_filler : trB n_law_filler fs (defScope (at_ 39)).names (defScope (at_ 39)).names 60 (defBody (at_ 39)) = some c_law_filler := by kernel_rfl
def n_law_meaning : List Str := ["w", "ground", "room", "mood", "own", "rows", "fillers", "time", "role"]
def p_law_meaning : List Str := ["w", "ground", "room"]
theorem s_law_meaning : FnScope n_law_meaning p_law_meaning (defScope (at_ 40)) := ⟨rfl, rfl, rfl, by decide +kernel, rfl, by decide +kernel, by decide +kernel⟩
theorem t_law_meaning : trB n_law_meaning fs (defScope (at_ 40)).names (defScope (at_ 40)).names 60 (defBody (at_ 40)) = some c_law_meaning := by kernel_rfl
def n_law_model : List Str := ["w", "ground", "many", "kinds", "sense", "names", "facts", "turn", "own", "rows", "x", "name", "role"]
def p_law_model : List Str := ["w", "ground"]
theorem s_law_model : FnScope n_law_model p_law_model (defScope (at_ 41)) := ⟨rfl, rfl, rfl, by decide +kernel, rfl, by decide +kernel, by decide +kernel⟩
theorem t_law_model : trB n_law_model fs (defScope (at_ 41)).names (defScope (at_ 41)).names 60 (defBody (at_ 41)) = some c_law_model := by kernel_rfl
def n_law_wider : List Str := ["w", "ground", "model", "many", "facts", "turn", "row", "own", "fact", "role"]
def p_law_wider : List Str := ["w", "ground", "model"]
theorem s_law_wider : FnScope n_law_wider p_law_wider (defScope (at_ 42)) := ⟨rfl, rfl, rfl, by decide +kernel, rfl, by decide +kernel, by decide +kernel⟩
theorem t_law_wider : trB n_law_wider fs (defScope (at_ 42)).names (defScope (at_ 42)).names 60 (defBody (at_ 42)) = some c_law_wider := by kernel_rfl
def n_law : List Str := ["script", "w", "time", "ground", "turn", "model", "meaning", "wider", "own", "seen", "due", "x"]
def p_law : List Str := ["script"]
theorem s_law : FnScope n_law p_law (defScope (at_ 43)) := ⟨rfl, rfl, rfl, by decide +kernel, rfl, by decide +kernel, by decide +kernel⟩
theorem t_law : trB n_law fs (defScope (at_ 43)).names (defScope (at_ 43)).names 60 (defBody (at_ 43)) = some c_law := by kernel_rfl
def pp : List (List Str) := [p_row_of, p_kind_of, p_roles_of, p_gloss_of, p_senses_of_kind, p_is_such, p_such_ones, p_individual_of, p_is_reached, p_goes_on, p_true_of, p_true_in, p_answer_in, p_is_number, p_is_ascending, p_is_individual, p_is_pair, p_are_pairs, p_is_fact, p_are_facts, p_are_all_names, p_is_model, p_law_draws, p_law_next, p_law_pick, p_law_same, p_law_ground, p_law_of_kind, p_law_text_of, p_law_more_text, p_law_thing, p_law_more, p_law_filler, p_law_meaning, p_law_model, p_law_wider, p_law]
section
variable {K : PySem.W.Frag} {h : Heap} {mg : Str → Option Value}
theorem d_row_of (X : K.In h) (G : h.Ns mainGlobals mg) (s : Stand K "row_of" (at_ 1)) : ∃ d, DefIs K mg fs "row_of" f_row_of d ∧ d.2.2 = p_row_of := s.is X G s_row_of (fun _ _ _ _ _ _ us hl => match us, hl with | [_, _], _ => rfl) t_row_of rfl rfl
theorem d_kind_of (X : K.In h) (G : h.Ns mainGlobals mg) (s : Stand K "kind_of" (at_ 2)) : ∃ d, DefIs K mg fs "kind_of" f_kind_of d ∧ d.2.2 = p_kind_of := s.is X G s_kind_of (fun _ _ _ _ _ _ us hl => match us, hl with | [_, _], _ => rfl) t_kind_of rfl rfl
theorem d_roles_of (X : K.In h) (G : h.Ns mainGlobals mg) (s : Stand K "roles_of" (at_ 3)) : ∃ d, DefIs K mg fs "roles_of" f_roles_of d ∧ d.2.2 = p_roles_of := s.is X G s_roles_of (fun _ _ _ _ _ _ us hl => match us, hl with | [_, _], _ => rfl) t_roles_of rfl rfl
theorem d_gloss_of (X : K.In h) (G : h.Ns mainGlobals mg) (s : Stand K "gloss_of" (at_ 4)) : ∃ d, DefIs K mg fs "gloss_of" f_gloss_of d ∧ d.2.2 = p_gloss_of := s.is X G s_gloss_of (fun _ _ _ _ _ _ us hl => match us, hl with | [_, _], _ => rfl) t_gloss_of rfl rfl
theorem d_senses_of_kind (X : K.In h) (G : h.Ns mainGlobals mg) (s : Stand K "senses_of_kind" (at_ 5)) : ∃ d, DefIs K mg fs "senses_of_kind" f_senses_of_kind d ∧ d.2.2 = p_senses_of_kind := s.is X G s_senses_of_kind (fun _ _ _ _ _ _ us hl => match us, hl with | [_, _], _ => rfl) t_senses_of_kind rfl rfl
theorem d_is_such (X : K.In h) (G : h.Ns mainGlobals mg) (s : Stand K "is_such" (at_ 7)) : ∃ d, DefIs K mg fs "is_such" f_is_such d ∧ d.2.2 = p_is_such := s.is X G s_is_such (fun _ _ _ _ _ _ us hl => match us, hl with | [_, _, _, _], _ => rfl) t_is_such rfl rfl
theorem d_such_ones (X : K.In h) (G : h.Ns mainGlobals mg) (s : Stand K "such_ones" (at_ 8)) : ∃ d, DefIs K mg fs "such_ones" f_such_ones d ∧ d.2.2 = p_such_ones := s.is X G s_such_ones (fun _ _ _ _ _ _ us hl => match us, hl with | [_, _, _], _ => rfl) t_such_ones rfl rfl
theorem d_individual_of (X : K.In h) (G : h.Ns mainGlobals mg) (s : Stand K "individual_of" (at_ 9)) : ∃ d, DefIs K mg fs "individual_of" f_individual_of d ∧ d.2.2 = p_individual_of := s.is X G s_individual_of (fun _ _ _ _ _ _ us hl => match us, hl with | [_, _, _], _ => rfl) t_individual_of rfl rfl
theorem d_is_reached (X : K.In h) (G : h.Ns mainGlobals mg) (s : Stand K "is_reached" (at_ 10)) : ∃ d, DefIs K mg fs "is_reached" f_is_reached d ∧ d.2.2 = p_is_reached := s.is X G s_is_reached (fun _ _ _ _ _ _ us hl => match us, hl with | [_, _, _], _ => rfl) t_is_reached rfl rfl
theorem d_goes_on (X : K.In h) (G : h.Ns mainGlobals mg) (s : Stand K "goes_on" (at_ 11)) : ∃ d, DefIs K mg fs "goes_on" f_goes_on d ∧ d.2.2 = p_goes_on := s.is X G s_goes_on (fun _ _ _ _ _ _ us hl => match us, hl with | [_, _, _, _, _], _ => rfl) t_goes_on rfl rfl
theorem d_true_of (X : K.In h) (G : h.Ns mainGlobals mg) (s : Stand K "true_of" (at_ 12)) : ∃ d, DefIs K mg fs "true_of" f_true_of d ∧ d.2.2 = p_true_of := s.is X G s_true_of (fun _ _ _ _ _ _ us hl => match us, hl with | [_, _, _, _], _ => rfl) t_true_of rfl rfl
theorem d_true_in (X : K.In h) (G : h.Ns mainGlobals mg) (s : Stand K "true_in" (at_ 13)) : ∃ d, DefIs K mg fs "true_in" f_true_in d ∧ d.2.2 = p_true_in := s.is X G s_true_in (fun _ _ _ _ _ _ us hl => match us, hl with | [_, _, _], _ => rfl) t_true_in rfl rfl
theorem d_answer_in (X : K.In h) (G : h.Ns mainGlobals mg) (s : Stand K "answer_in" (at_ 14)) : ∃ d, DefIs K mg fs "answer_in" f_answer_in d ∧ d.2.2 = p_answer_in := s.is X G s_answer_in (fun _ _ _ _ _ _ us hl => match us, hl with | [_, _, _], _ => rfl) t_answer_in rfl rfl
theorem d_is_number (X : K.In h) (G : h.Ns mainGlobals mg) (s : Stand K "is_number" (at_ 16)) : ∃ d, DefIs K mg fs "is_number" f_is_number d ∧ d.2.2 = p_is_number := s.is X G s_is_number (fun _ _ _ _ _ _ us hl => match us, hl with | [_], _ => rfl) t_is_number rfl rfl
theorem d_is_ascending (X : K.In h) (G : h.Ns mainGlobals mg) (s : Stand K "is_ascending" (at_ 17)) : ∃ d, DefIs K mg fs "is_ascending" f_is_ascending d ∧ d.2.2 = p_is_ascending := s.is X G s_is_ascending (fun _ _ _ _ _ _ us hl => match us, hl with | [_], _ => rfl) t_is_ascending rfl rfl
theorem d_is_individual (X : K.In h) (G : h.Ns mainGlobals mg) (s : Stand K "is_individual" (at_ 21)) : ∃ d, DefIs K mg fs "is_individual" f_is_individual d ∧ d.2.2 = p_is_individual := s.is X G s_is_individual (fun _ _ _ _ _ _ us hl => match us, hl with | [_, _], _ => rfl) t_is_individual rfl rfl
theorem d_is_pair (X : K.In h) (G : h.Ns mainGlobals mg) (s : Stand K "is_pair" (at_ 22)) : ∃ d, DefIs K mg fs "is_pair" f_is_pair d ∧ d.2.2 = p_is_pair := s.is X G s_is_pair (fun _ _ _ _ _ _ us hl => match us, hl with | [_, _, _, _], _ => rfl) t_is_pair rfl rfl
theorem d_are_pairs (X : K.In h) (G : h.Ns mainGlobals mg) (s : Stand K "are_pairs" (at_ 23)) : ∃ d, DefIs K mg fs "are_pairs" f_are_pairs d ∧ d.2.2 = p_are_pairs := s.is X G s_are_pairs (fun _ _ _ _ _ _ us hl => match us, hl with | [_, _, _, _], _ => rfl) t_are_pairs rfl rfl
theorem d_is_fact (X : K.In h) (G : h.Ns mainGlobals mg) (s : Stand K "is_fact" (at_ 24)) : ∃ d, DefIs K mg fs "is_fact" f_is_fact d ∧ d.2.2 = p_is_fact := s.is X G s_is_fact (fun _ _ _ _ _ _ us hl => match us, hl with | [_, _, _], _ => rfl) t_is_fact rfl rfl
theorem d_are_facts (X : K.In h) (G : h.Ns mainGlobals mg) (s : Stand K "are_facts" (at_ 25)) : ∃ d, DefIs K mg fs "are_facts" f_are_facts d ∧ d.2.2 = p_are_facts := s.is X G s_are_facts (fun _ _ _ _ _ _ us hl => match us, hl with | [_, _, _], _ => rfl) t_are_facts rfl rfl
theorem d_are_all_names (X : K.In h) (G : h.Ns mainGlobals mg) (s : Stand K "are_all_names" (at_ 26)) : ∃ d, DefIs K mg fs "are_all_names" f_are_all_names d ∧ d.2.2 = p_are_all_names := s.is X G s_are_all_names (fun _ _ _ _ _ _ us hl => match us, hl with | [_, _], _ => rfl) t_are_all_names rfl rfl
theorem d_is_model (X : K.In h) (G : h.Ns mainGlobals mg) (s : Stand K "is_model" (at_ 27)) : ∃ d, DefIs K mg fs "is_model" f_is_model d ∧ d.2.2 = p_is_model := s.is X G s_is_model (fun _ _ _ _ _ _ us hl => match us, hl with | [_, _], _ => rfl) t_is_model rfl rfl
theorem d_law_draws (X : K.In h) (G : h.Ns mainGlobals mg) (s : Stand K "_law_draws" (at_ 29)) : ∃ d, DefIs K mg fs "_law_draws" f_law_draws d ∧ d.2.2 = p_law_draws := s.is X G s_law_draws (fun _ _ _ _ _ _ us hl => match us, hl with | [_, _], _ => rfl) t_law_draws rfl rfl
theorem d_law_next (X : K.In h) (G : h.Ns mainGlobals mg) (s : Stand K "_law_next" (at_ 30)) : ∃ d, DefIs K mg fs "_law_next" f_law_next d ∧ d.2.2 = p_law_next := s.is X G s_law_next (fun _ _ _ _ _ _ us hl => match us, hl with | [_, _], _ => rfl) t_law_next rfl rfl
theorem d_law_pick (X : K.In h) (G : h.Ns mainGlobals mg) (s : Stand K "_law_pick" (at_ 31)) : ∃ d, DefIs K mg fs "_law_pick" f_law_pick d ∧ d.2.2 = p_law_pick := s.is X G s_law_pick (fun _ _ _ _ _ _ us hl => match us, hl with | [_, _], _ => rfl) t_law_pick rfl rfl
theorem d_law_same (X : K.In h) (G : h.Ns mainGlobals mg) (s : Stand K "_law_same" (at_ 32)) : ∃ d, DefIs K mg fs "_law_same" f_law_same d ∧ d.2.2 = p_law_same := s.is X G s_law_same (fun _ _ _ _ _ _ us hl => match us, hl with | [_, _], _ => rfl) t_law_same rfl rfl
theorem d_law_ground (X : K.In h) (G : h.Ns mainGlobals mg) (s : Stand K "_law_ground" (at_ 33)) : ∃ d, DefIs K mg fs "_law_ground" f_law_ground d ∧ d.2.2 = p_law_ground := s.is X G s_law_ground (fun _ _ _ _ _ _ us hl => match us, hl with | [_], _ => rfl) t_law_ground rfl rfl
theorem d_law_of_kind (X : K.In h) (G : h.Ns mainGlobals mg) (s : Stand K "_law_of_kind" (at_ 34)) : ∃ d, DefIs K mg fs "_law_of_kind" f_law_of_kind d ∧ d.2.2 = p_law_of_kind := s.is X G s_law_of_kind (fun _ _ _ _ _ _ us hl => match us, hl with | [_, _], _ => rfl) t_law_of_kind rfl rfl
theorem d_law_text_of (X : K.In h) (G : h.Ns mainGlobals mg) (s : Stand K "_law_text_of" (at_ 35)) : ∃ d, DefIs K mg fs "_law_text_of" f_law_text_of d ∧ d.2.2 = p_law_text_of := s.is X G s_law_text_of (fun _ _ _ _ _ _ us hl => match us, hl with | [_], _ => rfl) t_law_text_of rfl rfl
theorem d_law_more_text (X : K.In h) (G : h.Ns mainGlobals mg) (s : Stand K "_law_more_text" (at_ 36)) : ∃ d, DefIs K mg fs "_law_more_text" f_law_more_text d ∧ d.2.2 = p_law_more_text := s.is X G s_law_more_text (fun _ _ _ _ _ _ us hl => match us, hl with | [_], _ => rfl) t_law_more_text rfl rfl
theorem d_law_thing (X : K.In h) (G : h.Ns mainGlobals mg) (s : Stand K "_law_thing" (at_ 37)) : ∃ d, DefIs K mg fs "_law_thing" f_law_thing d ∧ d.2.2 = p_law_thing := s.is X G s_law_thing (fun _ _ _ _ _ _ us hl => match us, hl with | [_, _, _], _ => rfl) t_law_thing rfl rfl
theorem d_law_more (X : K.In h) (G : h.Ns mainGlobals mg) (s : Stand K "_law_more" (at_ 38)) : ∃ d, DefIs K mg fs "_law_more" f_law_more d ∧ d.2.2 = p_law_more := s.is X G s_law_more (fun _ _ _ _ _ _ us hl => match us, hl with | [_, _, _], _ => rfl) t_law_more rfl rfl
theorem d_law_filler (X : K.In h) (G : h.Ns mainGlobals mg) (s : Stand K "_law_filler" (at_ 39)) : ∃ d, DefIs K mg fs "_law_filler" f_law_filler d ∧ d.2.2 = p_law_filler := s.is X G s_law_filler (fun _ _ _ _ _ _ us hl => match us, hl with | [_, _, _], _ => rfl) t_law_filler rfl rfl
theorem d_law_meaning (X : K.In h) (G : h.Ns mainGlobals mg) (s : Stand K "_law_meaning" (at_ 40)) : ∃ d, DefIs K mg fs "_law_meaning" f_law_meaning d ∧ d.2.2 = p_law_meaning := s.is X G s_law_meaning (fun _ _ _ _ _ _ us hl => match us, hl with | [_, _, _], _ => rfl) t_law_meaning rfl rfl
theorem d_law_model (X : K.In h) (G : h.Ns mainGlobals mg) (s : Stand K "_law_model" (at_ 41)) : ∃ d, DefIs K mg fs "_law_model" f_law_model d ∧ d.2.2 = p_law_model := s.is X G s_law_model (fun _ _ _ _ _ _ us hl => match us, hl with | [_, _], _ => rfl) t_law_model rfl rfl
theorem d_law_wider (X : K.In h) (G : h.Ns mainGlobals mg) (s : Stand K "_law_wider" (at_ 42)) : ∃ d, DefIs K mg fs "_law_wider" f_law_wider d ∧ d.2.2 = p_law_wider := s.is X G s_law_wider (fun _ _ _ _ _ _ us hl => match us, hl with | [_, _, _], _ => rfl) t_law_wider rfl rfl
theorem d_law (X : K.In h) (G : h.Ns mainGlobals mg) (s : Stand K "law" (at_ 43)) : ∃ d, DefIs K mg fs "law" f_law d ∧ d.2.2 = p_law := s.is X G s_law (fun _ _ _ _ _ _ us hl => match us, hl with | [_], _ => rfl) t_law rfl rfl
theorem defs_are (X : K.In h) (G : h.Ns mainGlobals mg) (s0 : Stand K "row_of" (at_ 1)) (s1 : Stand K "kind_of" (at_ 2)) (s2 : Stand K "roles_of" (at_ 3)) (s3 : Stand K "gloss_of" (at_ 4)) (s4 : Stand K "senses_of_kind" (at_ 5)) (s5 : Stand K "is_such" (at_ 7)) (s6 : Stand K "such_ones" (at_ 8)) (s7 : Stand K "individual_of" (at_ 9)) (s8 : Stand K "is_reached" (at_ 10)) (s9 : Stand K "goes_on" (at_ 11)) (s10 : Stand K "true_of" (at_ 12)) (s11 : Stand K "true_in" (at_ 13)) (s12 : Stand K "answer_in" (at_ 14)) (s13 : Stand K "is_number" (at_ 16)) (s14 : Stand K "is_ascending" (at_ 17)) (s15 : Stand K "is_individual" (at_ 21)) (s16 : Stand K "is_pair" (at_ 22)) (s17 : Stand K "are_pairs" (at_ 23)) (s18 : Stand K "is_fact" (at_ 24)) (s19 : Stand K "are_facts" (at_ 25)) (s20 : Stand K "are_all_names" (at_ 26)) (s21 : Stand K "is_model" (at_ 27)) (s22 : Stand K "_law_draws" (at_ 29)) (s23 : Stand K "_law_next" (at_ 30)) (s24 : Stand K "_law_pick" (at_ 31)) (s25 : Stand K "_law_same" (at_ 32)) (s26 : Stand K "_law_ground" (at_ 33)) (s27 : Stand K "_law_of_kind" (at_ 34)) (s28 : Stand K "_law_text_of" (at_ 35)) (s29 : Stand K "_law_more_text" (at_ 36)) (s30 : Stand K "_law_thing" (at_ 37)) (s31 : Stand K "_law_more" (at_ 38)) (s32 : Stand K "_law_filler" (at_ 39)) (s33 : Stand K "_law_meaning" (at_ 40)) (s34 : Stand K "_law_model" (at_ 41)) (s35 : Stand K "_law_wider" (at_ 42)) (s36 : Stand K "law" (at_ 43)) : DefsAre K mg fs tab pp :=
  .cons (d_row_of X G s0) (.cons (d_kind_of X G s1) (.cons (d_roles_of X G s2) (.cons (d_gloss_of X G s3) (.cons (d_senses_of_kind X G s4) (.cons (d_is_such X G s5) (.cons (d_such_ones X G s6) (.cons (d_individual_of X G s7) (.cons (d_is_reached X G s8) (.cons (d_goes_on X G s9) (.cons (d_true_of X G s10) (.cons (d_true_in X G s11) (.cons (d_answer_in X G s12) (.cons (d_is_number X G s13) (.cons (d_is_ascending X G s14) (.cons (d_is_individual X G s15) (.cons (d_is_pair X G s16) (.cons (d_are_pairs X G s17) (.cons (d_is_fact X G s18) (.cons (d_are_facts X G s19) (.cons (d_are_all_names X G s20) (.cons (d_is_model X G s21) (.cons (d_law_draws X G s22) (.cons (d_law_next X G s23) (.cons (d_law_pick X G s24) (.cons (d_law_same X G s25) (.cons (d_law_ground X G s26) (.cons (d_law_of_kind X G s27) (.cons (d_law_text_of X G s28) (.cons (d_law_more_text X G s29) (.cons (d_law_thing X G s30) (.cons (d_law_more X G s31) (.cons (d_law_filler X G s32) (.cons (d_law_meaning X G s33) (.cons (d_law_model X G s34) (.cons (d_law_wider X G s35) (.cons (d_law X G s36) (.nil)))))))))))))))))))))))))))))))))))))
theorem blts_are (X : K.In h) (G : h.Ns mainGlobals mg) (z0 : PySem.W.nsIn K mainGlobals "len" = some none) (z1 : PySem.W.nsIn K mainGlobals "abs" = some none) (z2 : PySem.W.nsIn K mainGlobals "int" = some none) (z3 : PySem.W.nsIn K mainGlobals "tuple" = some none) (z4 : PySem.W.nsIn K mainGlobals "list" = some none) (z5 : PySem.W.nsIn K mainGlobals "any" = some none) (z6 : PySem.W.nsIn K mainGlobals "all" = some none) (z7 : PySem.W.nsIn K mainGlobals "isinstance" = some none) (z8 : PySem.W.nsIn K mainGlobals "range" = some none) (z9 : PySem.W.nsIn K mainGlobals "sorted" = some none) (z10 : PySem.W.nsIn K mainGlobals "set" = some none) (z11 : PySem.W.nsIn K mainGlobals "str" = some none) (z12 : PySem.W.nsIn K mainGlobals "dict" = some none) (z13 : PySem.W.nsIn K mainGlobals "enumerate" = some none) (z14 : PySem.W.nsIn K mainGlobals "zip" = some none) (z15 : PySem.W.nsIn K mainGlobals "max" = some none) (z16 : PySem.W.nsIn K mainGlobals "min" = some none) (z17 : PySem.W.nsIn K mainGlobals "sum" = some none) (z18 : PySem.W.nsIn K mainGlobals "bool" = some none) : ∀ x ∈ blts, mg x = none := by
  intro x hx
  simp only [blts, List.mem_cons, List.not_mem_nil, or_false] at hx
  rcases hx with rfl | rfl | rfl | rfl | rfl | rfl | rfl | rfl | rfl | rfl | rfl | rfl | rfl | rfl | rfl | rfl | rfl | rfl | rfl
  · exact PySem.W.mg_none_of X G z0
  · exact PySem.W.mg_none_of X G z1
  · exact PySem.W.mg_none_of X G z2
  · exact PySem.W.mg_none_of X G z3
  · exact PySem.W.mg_none_of X G z4
  · exact PySem.W.mg_none_of X G z5
  · exact PySem.W.mg_none_of X G z6
  · exact PySem.W.mg_none_of X G z7
  · exact PySem.W.mg_none_of X G z8
  · exact PySem.W.mg_none_of X G z9
  · exact PySem.W.mg_none_of X G z10
  · exact PySem.W.mg_none_of X G z11
  · exact PySem.W.mg_none_of X G z12
  · exact PySem.W.mg_none_of X G z13
  · exact PySem.W.mg_none_of X G z14
  · exact PySem.W.mg_none_of X G z15
  · exact PySem.W.mg_none_of X G z16
  · exact PySem.W.mg_none_of X G z17
  · exact PySem.W.mg_none_of X G z18
theorem glo_are (X : K.In h) (G : h.Ns mainGlobals mg) (g0 : GloIs K "TIMES" (.tup [.str [112, 97, 115, 116], .str [110, 111, 119], .str [108, 97, 116, 101, 114]])) (g1 : GloIs K "MOST_INDIVIDUALS" (.int 4)) : GloAre K mg gl := GloAre.cons X G g0 ( GloAre.cons X G g1 (GloAre.nil))
end
end K56
end

section
set_option maxRecDepth 100000
set_option maxHeartbeats 4000000
namespace K56
open PySem L2 Fi
local macro_rules | `(tactic| walk_at "fi") => `(tactic| simp [WB_cons, WB_nil, WS_asg, WS_par, WS_aug, WS_augIx, WS_setIx, WS_ex, WS_ret, WS_retN, WS_brk, WS_cnt, WS_pas, WS_ite, iteQ_some, iteT_t, iteT_f, cont_nx, cont_rt, cont_bk, cont_ct, Lp_nx, Lp_ct, Lp_rt, Lp_bk, Lw_nx, Lw_ct, Lw_rt, Lw_bk, WT, Done_rt, Done_nx, giveD_sh, giveD_ow, giveD_pk, finsD, rg0, rg1, rg2, rg3, rg4, rg5, rg6, evS, evE, evEs, evO, evT, evI, evFs, Env.tkf, putp, Env.get, Env.put, Env.vw, Env.rd, Env.tk, Env.tks, Env.free, Rs.fz, op2D, addD, subD, mulD, fdivD, modD, powD, cmpA, ordD, nlk_un, nlk_sh, nlk_ow, nlk_lk, isD, iopD, iaddD, inopD, iaddI, op1D, PR.rs, D.truth, D.len, ixD, ix, partD, cutD, revD, lenB, absB, intB, tupleB, listB, anyB, allB, isinstB, bltD, getB, mthD, mthTy, appendB, extendB, popB, mutD, mutTy, setD, D.key, DKey.ok, tyNames, D.tyName, tySub, lock, unlock, lkFree, seqD, puts, bindT, Tg.slots, wipeE, back, argsOf, lent, lentOk, Ar.pass, behind, dk_ss, dk_ii, dk_si, dk_is, bigLine, ownOk, mapOut, turnF, dictAt, lockVar, hide, unhide, bls, inD, D.isNon, List.lookup, ctx_call, io_row_of, io_kind_of, io_roles_of, io_gloss_of, io_senses_of_kind, io_is_such, io_such_ones, io_individual_of, io_is_reached, io_goes_on, io_true_of, io_true_in, io_answer_in, io_is_number, io_is_ascending, io_is_individual, io_is_pair, io_are_pairs, io_is_fact, io_are_facts, io_are_all_names, io_is_model, io_law_draws, io_law_next, io_law_pick, io_law_same, io_law_ground, io_law_of_kind, io_law_text_of, io_law_more_text, io_law_thing, io_law_more, io_law_filler, io_law_meaning, io_law_model, io_law_wider, io_law, *])
local macro_rules | `(tactic| walk_at "fs") => `(tactic| simp [WB_cons, WB_nil, WS_asg, WS_par, WS_aug, WS_augIx, WS_setIx, WS_ex, WS_ret, WS_retN, WS_brk, WS_cnt, WS_pas, WS_ite, iteQ_some, iteT_t, iteT_f, cont_nx, cont_rt, cont_bk, cont_ct, Lp_nx, Lp_ct, Lp_rt, Lp_bk, Lw_nx, Lw_ct, Lw_rt, Lw_bk, WT, Done_rt, Done_nx, giveD_sh, giveD_ow, giveD_pk, finsD, rg0, rg1, rg2, rg3, rg4, rg5, rg6, evS, evE, evEs, evO, evT, evI, evFs, Env.tkf, putp, Env.get, Env.put, Env.vw, Env.rd, Env.tk, Env.tks, Env.free, Rs.fz, op2D, addD, subD, mulD, fdivD, modD, powD, cmpA, ordD, nlk_un, nlk_sh, nlk_ow, nlk_lk, isD, iopD, iaddD, inopD, iaddI, op1D, PR.rs, D.truth, D.len, ixD, ix, partD, cutD, revD, lenB, absB, intB, tupleB, listB, anyB, allB, isinstB, bltD, getB, mthD, mthTy, appendB, extendB, popB, mutD, mutTy, tyNames, D.tyName, tySub, lock, unlock, lkFree, seqD, puts, bindT, Tg.slots, wipeE, back, argsOf, lent, lentOk, Ar.pass, behind, dk_ss, dk_ii, dk_si, dk_is, bigLine, ownOk, mapOut, turnF, dictAt, lockVar, hide, unhide, bls, inD, D.isNon, List.lookup, ctx_call, io_row_of, io_kind_of, io_roles_of, io_gloss_of, io_senses_of_kind, io_is_such, io_such_ones, io_individual_of, io_is_reached, io_goes_on, io_true_of, io_true_in, io_answer_in, io_is_number, io_is_ascending, io_is_individual, io_is_pair, io_are_pairs, io_is_fact, io_are_facts, io_are_all_names, io_is_model, io_law_draws, io_law_next, io_law_pick, io_law_same, io_law_ground, io_law_of_kind, io_law_text_of, io_law_more_text, io_law_thing, io_law_more, io_law_filler, io_law_meaning, io_law_model, io_law_wider, io_law, *])
/-- a ground's row: its kind, its sense, the rest -/
structure Rw where
  k : Txt
  s : Txt
  more : List D
def rwD (r : Rw) : D := .tup (.str r.k :: .str r.s :: r.more)
def gD (g : List Rw) : D := .tup (g.map rwD)
def rowOf (g : List Rw) (s : Txt) : Option Rw := g.find? fun r => decide (r.s = s)
def orD : Option Rw → D
  | none => .non
  | some r => rwD r
theorem run_row_of (n : Nat) (g : List Rw) (s : Txt) : Fi.run T G (n + 1) "row_of" [(false, gD g), (false, .str s)] = some (.sh (orD (rowOf g s)), [.sh (gD g), .sh (.str s)]) := by
  refine run_eq (fn := f_row_of) (E0 := ⟨[.sh (gD g), .sh (.str s), .un], []⟩) rfl rfl rfl ?_
  unfold f_row_of c_row_of
  walk_at "fi"
  refine ws_for rwD g (I := fun pre E' => ∃ j : Sl, E' = ⟨[.sh (gD g), .sh (.str s), j], []⟩ ∧ j.nlk = true ∧ ∀ r ∈ pre, r.s ≠ s) (l := none) (E1 := ⟨[.sh (gD g), .sh (.str s), .un], []⟩) (by unfold gD; walk_at "fi") ⟨.un, rfl, rfl, by simp⟩ ?_ ?_
  · rintro pre r post E hx ⟨j, rfl, h1, h2⟩
    have hn : (1 : Int) < (r.more.length : Int) + 1 + 1 := by omega
    by_cases h : r.s = s
    · have hf : rowOf g s = some r := by
        unfold rowOf
        rw [hx, List.find?_append, List.find?_eq_none.mpr (by simpa using h2)]
        simp [h]
      rw [hf]
      unfold b1_row_of orD rwD
      walk_at "fi"
    · unfold b1_row_of rwD
      walk_at "fi"
      rintro x (hx | rfl)
      · exact h2 x hx
      · exact h
  · rintro E' ⟨j, rfl, h1, h2⟩
    have hf : rowOf g s = none := by
      unfold rowOf
      exact List.find?_eq_none.mpr (by simpa using h2)
    rw [hf]
    unfold orD
    walk_at "fi"
/-- the text "doing" -/
def tDoing : Txt := [100, 111, 105, 110, 103]
def tGloss : Txt := [103, 108, 111, 115, 115]
def kindOf (g : List Rw) (s : Txt) : D := match rowOf g s with
  | none => .non
  | some r => .str r.k
/-- the third part of a row of a kind -/
def partOf (t : Txt) (g : List Rw) (s : Txt) : D := match rowOf g s with
  | none => .non
  | some r => if r.k = t then r.more.headD .non else .non
theorem run_kind_of (n : Nat) (g : List Rw) (s : Txt) : Fi.run T G (n + 2) "kind_of" [(false, gD g), (false, .str s)] = some (.sh (kindOf g s), [.sh (gD g), .sh (.str s)]) := by
  refine run_eq (fn := f_kind_of) (E0 := ⟨[.sh (gD g), .sh (.str s), .un], []⟩) rfl rfl rfl ?_
  have hr := run_row_of n g s
  unfold f_kind_of c_kind_of kindOf
  generalize gD g = gd at *
  cases h : rowOf g s with
  | none => rw [h] at hr; unfold orD at hr; walk_at "fi"
  | some r => 
    have hn : (0 : Int) < (r.more.length : Int) + 1 + 1 := by omega
    rw [h] at hr; unfold orD rwD at hr; walk_at "fi"
theorem run_roles_of (n : Nat) (g : List Rw) (s : Txt) (hg : ∀ r ∈ g, r.k = tDoing → r.more ≠ []) : Fi.run T G (n + 2) "roles_of" [(false, gD g), (false, .str s)] = some (.sh (partOf tDoing g s), [.sh (gD g), .sh (.str s)]) := by
  refine run_eq (fn := f_roles_of) (E0 := ⟨[.sh (gD g), .sh (.str s), .un], []⟩) rfl rfl rfl ?_
  have hr := run_row_of n g s
  unfold f_roles_of c_roles_of partOf
  generalize gD g = gd at *
  cases h : rowOf g s with
  | none => rw [h] at hr; unfold orD at hr; walk_at "fi"
  | some r =>
    rw [h] at hr
    have hm := hg r (List.mem_of_find?_eq_some h)
    clear hg
    obtain ⟨k, s2, more⟩ := r
    unfold orD rwD at hr
    by_cases hk : k = tDoing
    · subst hk
      cases more with
      | nil => exact absurd rfl (hm rfl)
      | cons m more =>
        have hn : (2 : Int) < (more.length : Int) + 1 + 1 + 1 := by omega
        have hn0 : (0 : Int) < (more.length : Int) + 1 + 1 + 1 := by omega
        unfold tDoing at *
        walk_at "fi"
    · have hn0 : (0 : Int) < (more.length : Int) + 1 + 1 := by omega
      unfold tDoing at *
      walk_at "fi"
theorem run_gloss_of (n : Nat) (g : List Rw) (s : Txt) (hg : ∀ r ∈ g, r.k = tGloss → r.more ≠ []) : Fi.run T G (n + 2) "gloss_of" [(false, gD g), (false, .str s)] = some (.sh (partOf tGloss g s), [.sh (gD g), .sh (.str s)]) := by
  refine run_eq (fn := f_gloss_of) (E0 := ⟨[.sh (gD g), .sh (.str s), .un], []⟩) rfl rfl rfl ?_
  have hr := run_row_of n g s
  unfold f_gloss_of c_gloss_of partOf
  generalize gD g = gd at *
  cases h : rowOf g s with
  | none => rw [h] at hr; unfold orD at hr; walk_at "fi"
  | some r =>
    rw [h] at hr
    have hm := hg r (List.mem_of_find?_eq_some h)
    clear hg
    obtain ⟨k, s2, more⟩ := r
    unfold orD rwD at hr
    by_cases hk : k = tGloss
    · subst hk
      cases more with
      | nil => exact absurd rfl (hm rfl)
      | cons m more =>
        have hn : (2 : Int) < (more.length : Int) + 1 + 1 + 1 := by omega
        have hn0 : (0 : Int) < (more.length : Int) + 1 + 1 + 1 := by omega
        unfold tGloss at *
        walk_at "fi"
    · have hn0 : (0 : Int) < (more.length : Int) + 1 + 1 := by omega
      unfold tGloss at *
      walk_at "fi"
theorem run_is_number (n : Nat) (i : Int) : Fi.run T G (n + 1) "is_number" [(false, .int i)] = some (.sh (.bl (decide (0 ≤ i))), [.sh (.int i)]) := by
  refine run_eq (fn := f_is_number) (E0 := ⟨[.sh (.int i)], []⟩) rfl rfl rfl ?_
  unfold f_is_number c_is_number
  walk_at "fi"
theorem run_is_individual (n : Nat) (i m : Int) : Fi.run T G (n + 2) "is_individual" [(false, .int i), (false, .int m)] = some (.sh (.bl (decide (0 ≤ i ∧ i < m))), [.sh (.int i), .sh (.int m)]) := by
  refine run_eq (fn := f_is_individual) (E0 := ⟨[.sh (.int i), .sh (.int m)], []⟩) rfl rfl rfl ?_
  have h := run_is_number n i
  unfold f_is_individual c_is_individual
  by_cases h0 : 0 ≤ i
  · walk_at "fi"
  · walk_at "fi"
end K56
end

section
set_option maxRecDepth 100000
set_option maxHeartbeats 4000000
namespace K56
open PySem L2 Fi
local macro_rules | `(tactic| walk_at "fi") => `(tactic| simp [WB_cons, WB_nil, WS_asg, WS_par, WS_aug, WS_augIx, WS_setIx, WS_ex, WS_ret, WS_retN, WS_brk, WS_cnt, WS_pas, WS_ite, iteQ_some, iteT_t, iteT_f, cont_nx, cont_rt, cont_bk, cont_ct, Lp_nx, Lp_ct, Lp_rt, Lp_bk, Lw_nx, Lw_ct, Lw_rt, Lw_bk, WT, Done_rt, Done_nx, giveD_sh, giveD_ow, giveD_pk, finsD, rg0, rg1, rg2, rg3, rg4, rg5, rg6, evS, evE, evEs, evO, evT, evI, evFs, Env.tkf, putp, Env.get, Env.put, Env.vw, Env.rd, Env.tk, Env.tks, Env.free, Rs.fz, op2D, addD, subD, mulD, fdivD, modD, powD, cmpA, ordD, nlk_un, nlk_sh, nlk_ow, nlk_lk, isD, iopD, iaddD, inopD, iaddI, op1D, PR.rs, D.truth, D.len, ixD, ix, partD, cutD, revD, lenB, absB, intB, tupleB, listB, anyB, allB, isinstB, bltD, getB, mthD, mthTy, appendB, extendB, popB, mutD, mutTy, setD, D.key, DKey.ok, tyNames, D.tyName, tySub, lock, unlock, lkFree, seqD, puts, bindT, Tg.slots, wipeE, back, argsOf, lent, lentOk, Ar.pass, behind, dk_ss, dk_ii, dk_si, dk_is, bigLine, ownOk, mapOut, turnF, dictAt, lockVar, hide, unhide, bls, inD, D.isNon, List.lookup, ctx_call, io_row_of, io_kind_of, io_roles_of, io_gloss_of, io_senses_of_kind, io_is_such, io_such_ones, io_individual_of, io_is_reached, io_goes_on, io_true_of, io_true_in, io_answer_in, io_is_number, io_is_ascending, io_is_individual, io_is_pair, io_are_pairs, io_is_fact, io_are_facts, io_are_all_names, io_is_model, io_law_draws, io_law_next, io_law_pick, io_law_same, io_law_ground, io_law_of_kind, io_law_text_of, io_law_more_text, io_law_thing, io_law_more, io_law_filler, io_law_meaning, io_law_model, io_law_wider, io_law, *])
local macro_rules | `(tactic| walk_at "fs") => `(tactic| simp [WB_cons, WB_nil, WS_asg, WS_par, WS_aug, WS_augIx, WS_setIx, WS_ex, WS_ret, WS_retN, WS_brk, WS_cnt, WS_pas, WS_ite, iteQ_some, iteT_t, iteT_f, cont_nx, cont_rt, cont_bk, cont_ct, Lp_nx, Lp_ct, Lp_rt, Lp_bk, Lw_nx, Lw_ct, Lw_rt, Lw_bk, WT, Done_rt, Done_nx, giveD_sh, giveD_ow, giveD_pk, finsD, rg0, rg1, rg2, rg3, rg4, rg5, rg6, evS, evE, evEs, evO, evT, evI, evFs, Env.tkf, putp, Env.get, Env.put, Env.vw, Env.rd, Env.tk, Env.tks, Env.free, Rs.fz, op2D, addD, subD, mulD, fdivD, modD, powD, cmpA, ordD, nlk_un, nlk_sh, nlk_ow, nlk_lk, isD, iopD, iaddD, inopD, iaddI, op1D, PR.rs, D.truth, D.len, ixD, ix, partD, cutD, revD, lenB, absB, intB, tupleB, listB, anyB, allB, isinstB, bltD, getB, mthD, mthTy, appendB, extendB, popB, mutD, mutTy, tyNames, D.tyName, tySub, lock, unlock, lkFree, seqD, puts, bindT, Tg.slots, wipeE, back, argsOf, lent, lentOk, Ar.pass, behind, dk_ss, dk_ii, dk_si, dk_is, bigLine, ownOk, mapOut, turnF, dictAt, lockVar, hide, unhide, bls, inD, D.isNon, List.lookup, ctx_call, io_row_of, io_kind_of, io_roles_of, io_gloss_of, io_senses_of_kind, io_is_such, io_such_ones, io_individual_of, io_is_reached, io_goes_on, io_true_of, io_true_in, io_answer_in, io_is_number, io_is_ascending, io_is_individual, io_is_pair, io_are_pairs, io_is_fact, io_are_facts, io_are_all_names, io_is_model, io_law_draws, io_law_next, io_law_pick, io_law_same, io_law_ground, io_law_of_kind, io_law_text_of, io_law_more_text, io_law_thing, io_law_more, io_law_filler, io_law_meaning, io_law_model, io_law_wider, io_law, *])
theorem run_senses_of_kind (n : Nat) (g : List Rw) (k : Txt) (hg : g.length ≤ 1000) : Fi.run T G (n + 1) "senses_of_kind" [(false, gD g), (false, .str k)] = some (.sh (.tup ((g.filter fun r => decide (r.k = k)).map fun r => .str r.s)), [.sh (gD g), .sh (.str k)]) := by
  refine run_eq (fn := f_senses_of_kind) (E0 := ⟨[.sh (gD g), .sh (.str k), .un], []⟩) rfl rfl rfl ?_
  have hc : evE (ctxOf T G n) k1_senses_of_kind ⟨[.sh (gD g), .sh (.str k), .un], []⟩ = some (.ow (.lst ((g.filter fun r => decide (r.k = k)).map fun r => .str r.s)), ⟨[.sh (gD g), .sh (.str k), .un], []⟩) := by
    refine cmpV_filter rwD (fun r => D.str r.s) (fun r => decide (r.k = k)) g (d := gD g) (l := none) (E1 := ⟨[.sh (gD g), .sh (.str k), .un], []⟩) rfl rfl rfl rfl (fun r _ => ?_) (by unfold bigLine; omega) rfl
    have h0 : (0 : Int) < (r.more.length : Int) + 1 + 1 := by omega
    have h1 : (1 : Int) < (r.more.length : Int) + 1 + 1 := by omega
    unfold rwD
    by_cases h : r.k = k
    · walk_at "fi"
    · walk_at "fi"
  unfold f_senses_of_kind c_senses_of_kind
  generalize k1_senses_of_kind = kk at *
  generalize gD g = gd at *
  walk_at "fi"
/-- neighbours ascend -/
def Asc (xs : List D) : Prop := ∀ (k : Nat) (a b : D), xs[k]? = some a → xs[k + 1]? = some b → op2D .lt a b = some (.sc (.bl true))
theorem run_is_ascending (n : Nat) (xs : List D) (hl : xs.length ≤ 1000) (h : Asc xs) : Fi.run T G (n + 1) "is_ascending" [(false, .tup xs)] = some (.sh (.bl true), [.sh (.tup xs)]) := by
  refine run_eq (fn := f_is_ascending) (E0 := ⟨[.sh (.tup xs), .un], []⟩) rfl rfl rfl ?_
  have hc : evE (ctxOf T G n) k1_is_ascending ⟨[.sh (.tup xs), .un], []⟩ = some (.ow (.lst ((List.range (xs.length - 1)).map fun _ => .bl true)), ⟨[.sh (.tup xs), .un], []⟩) := by
    have hr : evI (ctxOf T G n) (.rng1 (.op2 .sub (.blt .len (.cons (.var 0) .nil)) (.con (.int 1)))) ⟨[.sh (.tup xs), .un], []⟩ = some ((List.range (xs.length - 1)).map fun k : Nat => D.int k, none, ⟨[.sh (.tup xs), .un], []⟩) := by
      cases hx : xs.length with
      | zero =>
        have e : ((xs.length : Int) - 1) = -1 := by omega
        walk_at "fi"
        rfl
      | succ m =>
        refine evI_rng (n := m) ?_ (by omega)
        have e : ((xs.length : Int) - 1) = m := by omega
        walk_at "fi"
    refine cmp_map (fun k : Nat => D.int k) (fun _ => D.bl true) (List.range (xs.length - 1)) (l := none) (E1 := ⟨[.sh (.tup xs), .un], []⟩) hr rfl (fun k hk => ?_) (by rw [List.length_range]; unfold bigLine; omega) rfl
    rw [List.mem_range] at hk
    have e0 : xs[k]? = some xs[k] := List.getElem?_eq_getElem (by omega)
    have e1 : xs[k + 1]? = some xs[k + 1] := List.getElem?_eq_getElem (by omega)
    have hh := h k _ _ e0 e1
    have q0 : (k : Int) < (xs.length : Int) := by omega
    have q1 : ((k : Int) + 1) < (xs.length : Int) := by omega
    have q2 : (0 : Int) ≤ (k : Int) + 1 := by omega
    have q3 : ((k : Int) + 1).toNat = k + 1 := by omega
    generalize xs[k] = a at *
    generalize xs[k + 1] = b at *
    clear h hk hl hr
    simp only [op2D, cmpA, ordD] at hh
    walk_at "fi"
  unfold f_is_ascending c_is_ascending
  generalize k1_is_ascending = kk at *
  have hb : bls ((List.range (xs.length - 1)).map fun _ => D.bl true) = some ((List.range (xs.length - 1)).map fun _ => true) := by
    generalize List.range (xs.length - 1) = l
    induction l with
    | nil => rfl
    | cons x l ih => rw [List.map_cons, List.map_cons]; unfold bls; rw [ih]; rfl
  walk_at "fi"
end K56
end

section
set_option maxRecDepth 100000
set_option maxHeartbeats 4000000
namespace K56
open PySem L2 Fi
local macro_rules | `(tactic| walk_at "fi") => `(tactic| simp [WB_cons, WB_nil, WS_asg, WS_par, WS_aug, WS_augIx, WS_setIx, WS_ex, WS_ret, WS_retN, WS_brk, WS_cnt, WS_pas, WS_ite, iteQ_some, iteT_t, iteT_f, cont_nx, cont_rt, cont_bk, cont_ct, Lp_nx, Lp_ct, Lp_rt, Lp_bk, Lw_nx, Lw_ct, Lw_rt, Lw_bk, WT, Done_rt, Done_nx, giveD_sh, giveD_ow, giveD_pk, finsD, rg0, rg1, rg2, rg3, rg4, rg5, rg6, evS, evE, evEs, evO, evT, evI, evFs, Env.tkf, putp, Env.get, Env.put, Env.vw, Env.rd, Env.tk, Env.tks, Env.free, Rs.fz, op2D, addD, subD, mulD, fdivD, modD, powD, cmpA, ordD, nlk_un, nlk_sh, nlk_ow, nlk_lk, isD, iopD, iaddD, inopD, iaddI, op1D, PR.rs, D.truth, D.len, ixD, ix, partD, cutD, revD, lenB, absB, intB, tupleB, listB, anyB, allB, isinstB, bltD, getB, mthD, mthTy, appendB, extendB, popB, mutD, mutTy, setD, D.key, DKey.ok, tyNames, D.tyName, tySub, lock, unlock, lkFree, seqD, puts, bindT, Tg.slots, wipeE, back, argsOf, lent, lentOk, Ar.pass, behind, dk_ss, dk_ii, dk_si, dk_is, bigLine, ownOk, mapOut, turnF, dictAt, lockVar, hide, unhide, bls, inD, D.isNon, List.lookup, ctx_call, io_row_of, io_kind_of, io_roles_of, io_gloss_of, io_senses_of_kind, io_is_such, io_such_ones, io_individual_of, io_is_reached, io_goes_on, io_true_of, io_true_in, io_answer_in, io_is_number, io_is_ascending, io_is_individual, io_is_pair, io_are_pairs, io_is_fact, io_are_facts, io_are_all_names, io_is_model, io_law_draws, io_law_next, io_law_pick, io_law_same, io_law_ground, io_law_of_kind, io_law_text_of, io_law_more_text, io_law_thing, io_law_more, io_law_filler, io_law_meaning, io_law_model, io_law_wider, io_law, *])
local macro_rules | `(tactic| walk_at "fs") => `(tactic| simp [WB_cons, WB_nil, WS_asg, WS_par, WS_aug, WS_augIx, WS_setIx, WS_ex, WS_ret, WS_retN, WS_brk, WS_cnt, WS_pas, WS_ite, iteQ_some, iteT_t, iteT_f, cont_nx, cont_rt, cont_bk, cont_ct, Lp_nx, Lp_ct, Lp_rt, Lp_bk, Lw_nx, Lw_ct, Lw_rt, Lw_bk, WT, Done_rt, Done_nx, giveD_sh, giveD_ow, giveD_pk, finsD, rg0, rg1, rg2, rg3, rg4, rg5, rg6, evS, evE, evEs, evO, evT, evI, evFs, Env.tkf, putp, Env.get, Env.put, Env.vw, Env.rd, Env.tk, Env.tks, Env.free, Rs.fz, op2D, addD, subD, mulD, fdivD, modD, powD, cmpA, ordD, nlk_un, nlk_sh, nlk_ow, nlk_lk, isD, iopD, iaddD, inopD, iaddI, op1D, PR.rs, D.truth, D.len, ixD, ix, partD, cutD, revD, lenB, absB, intB, tupleB, listB, anyB, allB, isinstB, bltD, getB, mthD, mthTy, appendB, extendB, popB, mutD, mutTy, tyNames, D.tyName, tySub, lock, unlock, lkFree, seqD, puts, bindT, Tg.slots, wipeE, back, argsOf, lent, lentOk, Ar.pass, behind, dk_ss, dk_ii, dk_si, dk_is, bigLine, ownOk, mapOut, turnF, dictAt, lockVar, hide, unhide, bls, inD, D.isNon, List.lookup, ctx_call, io_row_of, io_kind_of, io_roles_of, io_gloss_of, io_senses_of_kind, io_is_such, io_such_ones, io_individual_of, io_is_reached, io_goes_on, io_true_of, io_true_in, io_answer_in, io_is_number, io_is_ascending, io_is_individual, io_is_pair, io_are_pairs, io_is_fact, io_are_facts, io_are_all_names, io_is_model, io_law_draws, io_law_next, io_law_pick, io_law_same, io_law_ground, io_law_of_kind, io_law_text_of, io_law_more_text, io_law_thing, io_law_more, io_law_filler, io_law_meaning, io_law_model, io_law_wider, io_law, *])
structure Mdl where
  many : Nat
  kinds : List (Txt × Nat)
  names : List (Txt × Nat)
  facts : List (Txt × Txt × List Nat)
  spk : Nat
  hrr : Nat
def prD (p : Txt × Nat) : D := .tup [.str p.1, .int p.2]
def fcD (f : Txt × Txt × List Nat) : D := .tup [.str f.1, .str f.2.1, .tup (f.2.2.map fun x : Nat => D.int x)]
def tModel : Txt := [109, 111, 100, 101, 108]
def mD (m : Mdl) : D := .tup [.str tModel, .int m.many, .tup (m.kinds.map prD), .tup (m.names.map prD), .tup (m.facts.map fcD), .int m.spk, .int m.hrr]
def kvD (p : Txt × Nat) : DKey × D := (.s p.1, .int p.2)
theorem dPairs_names : ∀ ns : List (Txt × Nat), dPairs (ns.map prD) = some (ns.map kvD)
  | [] => rfl
  | p :: ns => by
    rw [List.map_cons, List.map_cons]
    unfold prD
    unfold dPairs
    rw [show (ns.map fun p : Txt × Nat => D.tup [.str p.1, .int p.2]) = ns.map prD from rfl, dPairs_names ns]
    rfl
theorem dAll_nodup : ∀ (ps acc : List (DKey × D)), ((acc ++ ps).map (·.1)).Nodup → ps.foldl (fun a p => kput p.1 p.2 a) acc = acc ++ ps
  | [], acc, _ => by simp
  | p :: ps, acc, h => by
    have h1 : (acc.any fun kv => decide (kv.1 = p.1)) = false := by
      rw [List.any_eq_false]
      intro x hx
      simp only [decide_eq_true_eq]
      intro e
      rw [List.map_append, List.map_cons, List.nodup_append] at h
      exact h.2.2 x.1 (List.mem_map_of_mem hx) p.1 (by simp) e
    have h2 : kput p.1 p.2 acc = acc ++ [p] := by unfold kput; rw [h1]; rfl
    rw [List.foldl_cons, h2, dAll_nodup ps (acc ++ [p]) (by simpa using h)]
    simp
theorem dict_names (ns : List (Txt × Nat)) (h : (ns.map (·.1)).Nodup) : dictB [.tup (ns.map prD)] = some (.fr (.dct false (ns.map kvD))) := by
  show dictC (ns.map prD) = _
  unfold dictC
  rw [dPairs_names]
  have h1 : (ns.map kvD).all (fun p => p.1.ok false) = true := by
    rw [List.all_eq_true]
    intro x hx
    rw [List.mem_map] at hx
    obtain ⟨p, _, rfl⟩ := hx
    rfl
  have h2 : dAll (ns.map kvD) = ns.map kvD := by
    have hn : ((ns.map kvD).map (·.1)).Nodup := by
      rw [List.map_map]
      have : (Prod.fst ∘ kvD : Txt × Nat → DKey) = DKey.s ∘ Prod.fst := rfl
      rw [this, ← List.map_map]
      unfold List.Nodup at h ⊢
      exact List.pairwise_map.mpr (h.imp fun ne e => ne (by cases e; rfl))
    exact dAll_nodup _ [] (by simpa using hn)
  rw [Option.bind_some, if_pos h1, h2]
theorem kget_names (ns : List (Txt × Nat)) (s : Txt) : kget (.s s) (ns.map kvD) = (ns.lookup s).map fun x : Nat => D.int x := by
  induction ns with
  | nil => rfl
  | cons p ns ih =>
    obtain ⟨a, b⟩ := p
    unfold kget at *
    rw [List.map_cons]
    show List.lookup (DKey.s s) ((DKey.s a, D.int b) :: _) = _
    rw [List.lookup_cons, List.lookup_cons]
    by_cases e : s = a
    · subst e; simp
    · rw [show (DKey.s s == DKey.s a) = false by simpa using e, show (s == a) = false by simpa using e]
      exact ih
def tName : Txt := [110, 97, 109, 101]
theorem run_ind_name (n : Nat) (m : Mdl) (s : Txt) (x : D) (k : Nat) (hn : (m.names.map (·.1)).Nodup) (hk : m.names.lookup s = some k) : Fi.run T G (n + 1) "individual_of" [(false, mD m), (false, .tup [.str tName, .str s]), (false, x)] = some (.sh (.int k), [.sh (mD m), .sh (.tup [.str tName, .str s]), .sh x]) := by
  refine run_eq (fn := f_individual_of) (E0 := ⟨[.sh (mD m), .sh (.tup [.str tName, .str s]), .sh x], []⟩) rfl rfl rfl ?_
  have h1 := dict_names m.names hn
  have h2 := kget_names m.names s
  rw [hk] at h2
  simp only [Option.map_some] at h2
  unfold f_individual_of c_individual_of mD tName
  walk_at "fi"
def tSpk : Txt := [115, 112, 101, 97, 107, 101, 114]
def tHrr : Txt := [104, 101, 97, 114, 101, 114]
theorem eqv_str (a b : Str) : PyData.eqv (.str a) (.str b) = decide (a = b) := by
  rw [Bool.eq_iff_iff, decide_eq_true_eq]; unfold PyData.eqv; simp
theorem pys_txt : ∀ ts : List Txt, D.pys (ts.map .str) = some (ts.map fun t => PyData.str ⟨t.toArray⟩)
  | [] => by unfold D.pys; rfl
  | t :: ts => by rw [List.map_cons]; unfold D.pys; rw [pys_txt ts]; unfold D.py; rfl
theorem inList_txt (w : Txt) (ts : List Txt) : inListD (.str w) (ts.map .str) = some (decide (w ∈ ts)) := by
  unfold inListD
  rw [pys_txt]
  unfold D.py
  have hd : (PyData.str ⟨w.toArray⟩).depth ≤ 64 := by unfold PyData.depth; omega
  simp only [hd, if_true]
  congr 1
  rw [Bool.eq_iff_iff, decide_eq_true_eq, List.any_eq_true]
  constructor
  · rintro ⟨x, hx, e⟩
    rw [List.mem_map] at hx
    obtain ⟨t, ht, rfl⟩ := hx
    rw [eqv_str, decide_eq_true_eq] at e
    have : t = w := by simpa using e
    rwa [← this]
  · intro h
    exact ⟨_, List.mem_map_of_mem h, by rw [eqv_str]; simp⟩
theorem inList_two (w a b : Txt) : inListD (.str w) [.str a, .str b] = some (decide (w = a ∨ w = b)) := by
  rw [show [D.str a, D.str b] = [a, b].map D.str from rfl, inList_txt]; simp
theorem run_ind_spk (n : Nat) (m : Mdl) (x : D) : Fi.run T G (n + 1) "individual_of" [(false, mD m), (false, .tup [.str tSpk]), (false, x)] = some (.sh (.int m.spk), [.sh (mD m), .sh (.tup [.str tSpk]), .sh x]) := by
  refine run_eq (fn := f_individual_of) (E0 := ⟨[.sh (mD m), .sh (.tup [.str tSpk]), .sh x], []⟩) rfl rfl rfl ?_
  have hi := inList_two tSpk tSpk tHrr
  unfold f_individual_of c_individual_of mD
  unfold tSpk tHrr at *
  walk_at "fi"
theorem run_ind_hrr (n : Nat) (m : Mdl) (x : D) : Fi.run T G (n + 1) "individual_of" [(false, mD m), (false, .tup [.str tHrr]), (false, x)] = some (.sh (.int m.hrr), [.sh (mD m), .sh (.tup [.str tHrr]), .sh x]) := by
  refine run_eq (fn := f_individual_of) (E0 := ⟨[.sh (mD m), .sh (.tup [.str tHrr]), .sh x], []⟩) rfl rfl rfl ?_
  have hi := inList_two tHrr tSpk tHrr
  unfold f_individual_of c_individual_of mD
  unfold tSpk tHrr at *
  walk_at "fi"
theorem run_ind_x (n : Nat) (m : Mdl) (w : Txt) (x : D) (h1 : w ≠ tName) (h2 : w ≠ tSpk) (h3 : w ≠ tHrr) : Fi.run T G (n + 1) "individual_of" [(false, mD m), (false, .tup [.str w]), (false, x)] = some (.sh x, [.sh (mD m), .sh (.tup [.str w]), .sh x]) := by
  refine run_eq (fn := f_individual_of) (E0 := ⟨[.sh (mD m), .sh (.tup [.str w]), .sh x], []⟩) rfl rfl rfl ?_
  have hi := inList_two w tSpk tHrr
  unfold tName tSpk tHrr at *
  unfold f_individual_of c_individual_of
  generalize mD m = md at *
  walk_at "fi"
end K56
end

section
set_option maxRecDepth 100000
set_option maxHeartbeats 4000000
namespace K56
open PySem L2 Fi
local macro_rules | `(tactic| walk_at "fi") => `(tactic| simp [WB_cons, WB_nil, WS_asg, WS_par, WS_aug, WS_augIx, WS_setIx, WS_ex, WS_ret, WS_retN, WS_brk, WS_cnt, WS_pas, WS_ite, iteQ_some, iteT_t, iteT_f, cont_nx, cont_rt, cont_bk, cont_ct, Lp_nx, Lp_ct, Lp_rt, Lp_bk, Lw_nx, Lw_ct, Lw_rt, Lw_bk, WT, Done_rt, Done_nx, giveD_sh, giveD_ow, giveD_pk, finsD, rg0, rg1, rg2, rg3, rg4, rg5, rg6, evS, evE, evEs, evO, evT, evI, evFs, Env.tkf, putp, Env.get, Env.put, Env.vw, Env.rd, Env.tk, Env.tks, Env.free, Rs.fz, op2D, addD, subD, mulD, fdivD, modD, powD, cmpA, ordD, nlk_un, nlk_sh, nlk_ow, nlk_lk, isD, iopD, iaddD, inopD, iaddI, op1D, PR.rs, D.truth, D.len, ixD, ix, partD, cutD, revD, lenB, absB, intB, tupleB, listB, anyB, allB, isinstB, bltD, getB, mthD, mthTy, appendB, extendB, popB, mutD, mutTy, setD, D.key, DKey.ok, tyNames, D.tyName, tySub, lock, unlock, lkFree, seqD, puts, bindT, Tg.slots, wipeE, back, argsOf, lent, lentOk, Ar.pass, behind, dk_ss, dk_ii, dk_si, dk_is, bigLine, ownOk, mapOut, turnF, dictAt, lockVar, hide, unhide, bls, inD, D.isNon, List.lookup, ctx_call, io_row_of, io_kind_of, io_roles_of, io_gloss_of, io_senses_of_kind, io_is_such, io_such_ones, io_individual_of, io_is_reached, io_goes_on, io_true_of, io_true_in, io_answer_in, io_is_number, io_is_ascending, io_is_individual, io_is_pair, io_are_pairs, io_is_fact, io_are_facts, io_are_all_names, io_is_model, io_law_draws, io_law_next, io_law_pick, io_law_same, io_law_ground, io_law_of_kind, io_law_text_of, io_law_more_text, io_law_thing, io_law_more, io_law_filler, io_law_meaning, io_law_model, io_law_wider, io_law, *])
local macro_rules | `(tactic| walk_at "fs") => `(tactic| simp [WB_cons, WB_nil, WS_asg, WS_par, WS_aug, WS_augIx, WS_setIx, WS_ex, WS_ret, WS_retN, WS_brk, WS_cnt, WS_pas, WS_ite, iteQ_some, iteT_t, iteT_f, cont_nx, cont_rt, cont_bk, cont_ct, Lp_nx, Lp_ct, Lp_rt, Lp_bk, Lw_nx, Lw_ct, Lw_rt, Lw_bk, WT, Done_rt, Done_nx, giveD_sh, giveD_ow, giveD_pk, finsD, rg0, rg1, rg2, rg3, rg4, rg5, rg6, evS, evE, evEs, evO, evT, evI, evFs, Env.tkf, putp, Env.get, Env.put, Env.vw, Env.rd, Env.tk, Env.tks, Env.free, Rs.fz, op2D, addD, subD, mulD, fdivD, modD, powD, cmpA, ordD, nlk_un, nlk_sh, nlk_ow, nlk_lk, isD, iopD, iaddD, inopD, iaddI, op1D, PR.rs, D.truth, D.len, ixD, ix, partD, cutD, revD, lenB, absB, intB, tupleB, listB, anyB, allB, isinstB, bltD, getB, mthD, mthTy, appendB, extendB, popB, mutD, mutTy, tyNames, D.tyName, tySub, lock, unlock, lkFree, seqD, puts, bindT, Tg.slots, wipeE, back, argsOf, lent, lentOk, Ar.pass, behind, dk_ss, dk_ii, dk_si, dk_is, bigLine, ownOk, mapOut, turnF, dictAt, lockVar, hide, unhide, bls, inD, D.isNon, List.lookup, ctx_call, io_row_of, io_kind_of, io_roles_of, io_gloss_of, io_senses_of_kind, io_is_such, io_such_ones, io_individual_of, io_is_reached, io_goes_on, io_true_of, io_true_in, io_answer_in, io_is_number, io_is_ascending, io_is_individual, io_is_pair, io_are_pairs, io_is_fact, io_are_facts, io_are_all_names, io_is_model, io_law_draws, io_law_next, io_law_pick, io_law_same, io_law_ground, io_law_of_kind, io_law_text_of, io_law_more_text, io_law_thing, io_law_more, io_law_filler, io_law_meaning, io_law_model, io_law_wider, io_law, *])
def tSome : Txt := [115, 111, 109, 101]
def tEach : Txt := [101, 97, 99, 104]
def tNo : Txt := [110, 111]
def tMany : Txt := [109, 97, 110, 121]
/-- whether a thing's words hold: of a such ones b are so -/
def reached (num fix : Txt) (a b : Nat) : Bool :=
  if fix = tSome then decide ((if num = tMany then 2 else 1) ≤ b)
  else if fix = tEach ∨ fix = tNo then decide (b = if fix = tEach then a else 0)
  else (if num = tMany then decide (1 < a) else decide (a = 1)) && decide (b = a)
theorem eqv_int (a b : Int) : D.eqv (.int a) (.int b) = some (decide (a = b)) := by
  have hd : min (PyData.int a).depth (PyData.int b).depth ≤ 64 := by unfold PyData.depth; omega
  unfold D.eqv D.py
  simp only [hd, if_true]
  congr 1
theorem run_is_reached (n : Nat) (w s num fix : Txt) (q m : D) (us vs : List D) : Fi.run T G (n + 1) "is_reached" [(false, .tup [.str w, .str s, .str num, .str fix, q, m]), (false, .tup us), (false, .lst vs)] = some (.sh (.bl (reached num fix us.length vs.length)), [.sh (.tup [.str w, .str s, .str num, .str fix, q, m]), .sh (.tup us), .sh (.lst vs)]) := by
  refine run_eq (fn := f_is_reached) (E0 := ⟨[.sh (.tup [.str w, .str s, .str num, .str fix, q, m]), .sh (.tup us), .sh (.lst vs), .un, .un, .un], []⟩) rfl rfl rfl ?_
  have hi := inList_two fix tEach tNo
  have he := eqv_int
  unfold f_is_reached c_is_reached reached
  unfold tSome tEach tNo tMany at *
  by_cases h1 : fix = [115, 111, 109, 101]
  · subst h1
    by_cases h2 : num = [109, 97, 110, 121]
    · walk_at "fi"
      try omega
    · walk_at "fi"
      try omega
  · by_cases h3 : fix = [101, 97, 99, 104]
    · subst h3
      walk_at "fi"
      try omega
    · by_cases h4 : fix = [110, 111]
      · subst h4
        walk_at "fi"
      · by_cases h2 : num = [109, 97, 110, 121]
        · by_cases h5 : 1 < us.length
          · have h6 : (1 : Int) < (us.length : Int) := by omega
            walk_at "fi"
            try omega
          · have h6 : ¬ (1 : Int) < (us.length : Int) := by omega
            walk_at "fi"
        · by_cases h5 : us.length = 1
          · have h6 : (us.length : Int) = 1 := by omega
            walk_at "fi"
            try omega
          · have h6 : ¬ (us.length : Int) = 1 := by omega
            walk_at "fi"
end K56
end

section
set_option maxRecDepth 100000
set_option maxHeartbeats 4000000
namespace K56
open PySem L2 Fi
local macro_rules | `(tactic| walk_at "fi") => `(tactic| simp [WB_cons, WB_nil, WS_asg, WS_par, WS_aug, WS_augIx, WS_setIx, WS_ex, WS_ret, WS_retN, WS_brk, WS_cnt, WS_pas, WS_ite, iteQ_some, iteT_t, iteT_f, cont_nx, cont_rt, cont_bk, cont_ct, Lp_nx, Lp_ct, Lp_rt, Lp_bk, Lw_nx, Lw_ct, Lw_rt, Lw_bk, WT, Done_rt, Done_nx, giveD_sh, giveD_ow, giveD_pk, finsD, rg0, rg1, rg2, rg3, rg4, rg5, rg6, evS, evE, evEs, evO, evT, evI, evFs, Env.tkf, putp, Env.get, Env.put, Env.vw, Env.rd, Env.tk, Env.tks, Env.free, Rs.fz, op2D, addD, subD, mulD, fdivD, modD, powD, cmpA, ordD, nlk_un, nlk_sh, nlk_ow, nlk_lk, isD, iopD, iaddD, inopD, iaddI, op1D, PR.rs, D.truth, D.len, ixD, ix, partD, cutD, revD, lenB, absB, intB, tupleB, listB, anyB, allB, isinstB, bltD, getB, mthD, mthTy, appendB, extendB, popB, mutD, mutTy, setD, D.key, DKey.ok, tyNames, D.tyName, tySub, lock, unlock, lkFree, seqD, puts, bindT, Tg.slots, wipeE, back, argsOf, lent, lentOk, Ar.pass, behind, dk_ss, dk_ii, dk_si, dk_is, bigLine, ownOk, mapOut, turnF, dictAt, lockVar, hide, unhide, bls, inD, D.isNon, List.lookup, ctx_call, io_row_of, io_kind_of, io_roles_of, io_gloss_of, io_senses_of_kind, io_is_such, io_such_ones, io_individual_of, io_is_reached, io_goes_on, io_true_of, io_true_in, io_answer_in, io_is_number, io_is_ascending, io_is_individual, io_is_pair, io_are_pairs, io_is_fact, io_are_facts, io_are_all_names, io_is_model, io_law_draws, io_law_next, io_law_pick, io_law_same, io_law_ground, io_law_of_kind, io_law_text_of, io_law_more_text, io_law_thing, io_law_more, io_law_filler, io_law_meaning, io_law_model, io_law_wider, io_law, *])
local macro_rules | `(tactic| walk_at "fs") => `(tactic| simp [WB_cons, WB_nil, WS_asg, WS_par, WS_aug, WS_augIx, WS_setIx, WS_ex, WS_ret, WS_retN, WS_brk, WS_cnt, WS_pas, WS_ite, iteQ_some, iteT_t, iteT_f, cont_nx, cont_rt, cont_bk, cont_ct, Lp_nx, Lp_ct, Lp_rt, Lp_bk, Lw_nx, Lw_ct, Lw_rt, Lw_bk, WT, Done_rt, Done_nx, giveD_sh, giveD_ow, giveD_pk, finsD, rg0, rg1, rg2, rg3, rg4, rg5, rg6, evS, evE, evEs, evO, evT, evI, evFs, Env.tkf, putp, Env.get, Env.put, Env.vw, Env.rd, Env.tk, Env.tks, Env.free, Rs.fz, op2D, addD, subD, mulD, fdivD, modD, powD, cmpA, ordD, nlk_un, nlk_sh, nlk_ow, nlk_lk, isD, iopD, iaddD, inopD, iaddI, op1D, PR.rs, D.truth, D.len, ixD, ix, partD, cutD, revD, lenB, absB, intB, tupleB, listB, anyB, allB, isinstB, bltD, getB, mthD, mthTy, appendB, extendB, popB, mutD, mutTy, tyNames, D.tyName, tySub, lock, unlock, lkFree, seqD, puts, bindT, Tg.slots, wipeE, back, argsOf, lent, lentOk, Ar.pass, behind, dk_ss, dk_ii, dk_si, dk_is, bigLine, ownOk, mapOut, turnF, dictAt, lockVar, hide, unhide, bls, inD, D.isNon, List.lookup, ctx_call, io_row_of, io_kind_of, io_roles_of, io_gloss_of, io_senses_of_kind, io_is_such, io_such_ones, io_individual_of, io_is_reached, io_goes_on, io_true_of, io_true_in, io_answer_in, io_is_number, io_is_ascending, io_is_individual, io_is_pair, io_are_pairs, io_is_fact, io_are_facts, io_are_all_names, io_is_model, io_law_draws, io_law_next, io_law_pick, io_law_same, io_law_ground, io_law_of_kind, io_law_text_of, io_law_more_text, io_law_thing, io_law_more, io_law_filler, io_law_meaning, io_law_model, io_law_wider, io_law, *])
theorem cmp_such_ones (n : Nat) (T' : Str → Option Fn) (gd td : D) (m : Mdl) (p : Nat → Bool) (hm : m.many ≤ 100) (i1 : (ctxOf T' G n).io "is_such" = [false, false, false, false])
    (h : ∀ x < m.many, Fi.run T' G n "is_such" [(false, gd), (false, mD m), (false, td), (false, .int x)] = some (.sh (.bl (p x)), [.sh gd, .sh (mD m), .sh td, .sh (.int x)])) :
    evE (ctxOf T' G n) k1_such_ones ⟨[.sh gd, .sh (mD m), .sh td, .un], []⟩ = some (.ow (.lst (((List.range m.many).filter p).map fun x : Nat => D.int x)), ⟨[.sh gd, .sh (mD m), .sh td, .un], []⟩) := by
  have hr : evI (ctxOf T' G n) (.rng1 (.idx (.var 1) (.con (.int 1)))) ⟨[.sh gd, .sh (mD m), .sh td, .un], []⟩ = some ((List.range m.many).map fun k : Nat => D.int k, none, ⟨[.sh gd, .sh (mD m), .sh td, .un], []⟩) := by
    refine evI_rng (n := m.many) ?_ (by omega)
    unfold mD
    clear h i1
    walk_at "fi"
  refine cmp_filter (fun k : Nat => D.int k) (fun k : Nat => D.int k) p (List.range m.many) (l := none) (E1 := ⟨[.sh gd, .sh (mD m), .sh td, .un], []⟩) hr rfl (fun k hk => ?_) (by rw [List.length_range]; unfold bigLine; omega) rfl
  rw [List.mem_range] at hk
  have hh := h k hk
  clear h hr hk
  generalize mD m = md at *
  cases hp : p k
  · rw [hp] at hh; walk_at "fi"
  · rw [hp] at hh; walk_at "fi"
theorem last_such_ones (n : Nat) (T' : Str → Option Fn) (kk : CE) (gd md td : D) (L : List D) (hc : evE (ctxOf T' G n) kk ⟨[.sh gd, .sh md, .sh td, .un], []⟩ = some (.ow (.lst L), ⟨[.sh gd, .sh md, .sh td, .un], []⟩)) :
    WB (ctxOf T' G n) (.cons (.ret (.blt .tuple (.cons kk .nil))) .nil) ⟨[.sh gd, .sh md, .sh td, .un], []⟩ (Done 3 fun r ss => r = .sh (.tup L) ∧ ss = [.sh gd, .sh md, .sh td]) := by
  walk_at "fi"
/-- such_ones, from what is_such tells of each individual -/
theorem run_such_ones (n : Nat) (gd td : D) (m : Mdl) (p : Nat → Bool) (hm : m.many ≤ 100)
    (h : ∀ x < m.many, Fi.run T G n "is_such" [(false, gd), (false, mD m), (false, td), (false, .int x)] = some (.sh (.bl (p x)), [.sh gd, .sh (mD m), .sh td, .sh (.int x)])) :
    Fi.run T G (n + 1) "such_ones" [(false, gd), (false, mD m), (false, td)] = some (.sh (.tup (((List.range m.many).filter p).map fun x : Nat => D.int x)), [.sh gd, .sh (mD m), .sh td]) :=
  run_eq (fn := f_such_ones) (E0 := ⟨[.sh gd, .sh (mD m), .sh td, .un], []⟩) rfl rfl rfl (last_such_ones n T k1_such_ones gd (mD m) td _ (cmp_such_ones n T gd td m p hm (io_is_such n) h))
/-- true_of, from what goes_on tells -/
theorem run_true_of (n : Nat) (gd md xd : D) (mood time yes doing : Txt) (fs : D) (b : Bool)
    (h : Fi.run T G n "goes_on" [(false, gd), (false, md), (false, .tup [.str [99, 108, 97, 117, 115, 101], .str mood, .str time, .str yes, .str doing, fs]), (false, .tup []), (false, xd)] = some (.sh (.bl b), [.sh gd, .sh md, .sh (.tup [.str [99, 108, 97, 117, 115, 101], .str mood, .str time, .str yes, .str doing, fs]), .sh (.tup []), .sh xd])) :
    Fi.run T G (n + 1) "true_of" [(false, gd), (false, md), (false, .tup [.str [99, 108, 97, 117, 115, 101], .str mood, .str time, .str yes, .str doing, fs]), (false, xd)] = some (.sh (.bl (b == decide (yes = [121, 101, 115]))), [.sh gd, .sh md, .sh (.tup [.str [99, 108, 97, 117, 115, 101], .str mood, .str time, .str yes, .str doing, fs]), .sh xd]) := by
  refine run_eq (fn := f_true_of) (E0 := ⟨[.sh gd, .sh md, .sh (.tup [.str [99, 108, 97, 117, 115, 101], .str mood, .str time, .str yes, .str doing, fs]), .sh xd], []⟩) rfl rfl rfl ?_
  have he : ∀ a c : Bool, D.eqv (.bl a) (.bl c) = some (a == c) := by
    intro a c
    cases a <;> cases c <;> rfl
  have i1 := io_goes_on n
  unfold f_true_of c_true_of
  generalize T = T' at *
  walk_at "fi"
end K56
end

section
set_option maxRecDepth 100000
set_option maxHeartbeats 4000000
namespace K56
open PySem L2 Fi
local macro_rules | `(tactic| walk_at "fi") => `(tactic| simp [WB_cons, WB_nil, WS_asg, WS_par, WS_aug, WS_augIx, WS_setIx, WS_ex, WS_ret, WS_retN, WS_brk, WS_cnt, WS_pas, WS_ite, iteQ_some, iteT_t, iteT_f, cont_nx, cont_rt, cont_bk, cont_ct, Lp_nx, Lp_ct, Lp_rt, Lp_bk, Lw_nx, Lw_ct, Lw_rt, Lw_bk, WT, Done_rt, Done_nx, giveD_sh, giveD_ow, giveD_pk, finsD, rg0, rg1, rg2, rg3, rg4, rg5, rg6, evS, evE, evEs, evO, evT, evI, evFs, Env.tkf, putp, Env.get, Env.put, Env.vw, Env.rd, Env.tk, Env.tks, Env.free, Rs.fz, op2D, addD, subD, mulD, fdivD, modD, powD, cmpA, ordD, nlk_un, nlk_sh, nlk_ow, nlk_lk, isD, iopD, iaddD, inopD, iaddI, op1D, PR.rs, D.truth, D.len, ixD, ix, partD, cutD, revD, lenB, absB, intB, tupleB, listB, anyB, allB, isinstB, bltD, getB, mthD, mthTy, appendB, extendB, popB, mutD, mutTy, setD, D.key, DKey.ok, tyNames, D.tyName, tySub, lock, unlock, lkFree, seqD, puts, bindT, Tg.slots, wipeE, back, argsOf, lent, lentOk, Ar.pass, behind, dk_ss, dk_ii, dk_si, dk_is, bigLine, ownOk, mapOut, turnF, dictAt, lockVar, hide, unhide, bls, inD, D.isNon, List.lookup, ctx_call, io_row_of, io_kind_of, io_roles_of, io_gloss_of, io_senses_of_kind, io_is_such, io_such_ones, io_individual_of, io_is_reached, io_goes_on, io_true_of, io_true_in, io_answer_in, io_is_number, io_is_ascending, io_is_individual, io_is_pair, io_are_pairs, io_is_fact, io_are_facts, io_are_all_names, io_is_model, io_law_draws, io_law_next, io_law_pick, io_law_same, io_law_ground, io_law_of_kind, io_law_text_of, io_law_more_text, io_law_thing, io_law_more, io_law_filler, io_law_meaning, io_law_model, io_law_wider, io_law, *])
local macro_rules | `(tactic| walk_at "fs") => `(tactic| simp [WB_cons, WB_nil, WS_asg, WS_par, WS_aug, WS_augIx, WS_setIx, WS_ex, WS_ret, WS_retN, WS_brk, WS_cnt, WS_pas, WS_ite, iteQ_some, iteT_t, iteT_f, cont_nx, cont_rt, cont_bk, cont_ct, Lp_nx, Lp_ct, Lp_rt, Lp_bk, Lw_nx, Lw_ct, Lw_rt, Lw_bk, WT, Done_rt, Done_nx, giveD_sh, giveD_ow, giveD_pk, finsD, rg0, rg1, rg2, rg3, rg4, rg5, rg6, evS, evE, evEs, evO, evT, evI, evFs, Env.tkf, putp, Env.get, Env.put, Env.vw, Env.rd, Env.tk, Env.tks, Env.free, Rs.fz, op2D, addD, subD, mulD, fdivD, modD, powD, cmpA, ordD, nlk_un, nlk_sh, nlk_ow, nlk_lk, isD, iopD, iaddD, inopD, iaddI, op1D, PR.rs, D.truth, D.len, ixD, ix, partD, cutD, revD, lenB, absB, intB, tupleB, listB, anyB, allB, isinstB, bltD, getB, mthD, mthTy, appendB, extendB, popB, mutD, mutTy, tyNames, D.tyName, tySub, lock, unlock, lkFree, seqD, puts, bindT, Tg.slots, wipeE, back, argsOf, lent, lentOk, Ar.pass, behind, dk_ss, dk_ii, dk_si, dk_is, bigLine, ownOk, mapOut, turnF, dictAt, lockVar, hide, unhide, bls, inD, D.isNon, List.lookup, ctx_call, io_row_of, io_kind_of, io_roles_of, io_gloss_of, io_senses_of_kind, io_is_such, io_such_ones, io_individual_of, io_is_reached, io_goes_on, io_true_of, io_true_in, io_answer_in, io_is_number, io_is_ascending, io_is_individual, io_is_pair, io_are_pairs, io_is_fact, io_are_facts, io_are_all_names, io_is_model, io_law_draws, io_law_next, io_law_pick, io_law_same, io_law_ground, io_law_of_kind, io_law_text_of, io_law_more_text, io_law_thing, io_law_more, io_law_filler, io_law_meaning, io_law_model, io_law_wider, io_law, *])
/-! truth: fillers, clauses -/
inductive Fil where
  | one (w : Txt)
  | name (s : Txt)
  | thing (s num fix : Txt) (qs : List Txt) (ms : List (Txt × Txt × Txt × Txt × Txt × List Fil))
abbrev Cl := Txt × Txt × Txt × Txt × List Fil
abbrev Mr := Txt × Cl
def tThing : Txt := [116, 104, 105, 110, 103]
def tClause : Txt := [99, 108, 97, 117, 115, 101]
def tYes : Txt := [121, 101, 115]
mutual
def filD : Fil → D
  | .one w => .tup [.str w]
  | .name s => .tup [.str tName, .str s]
  | .thing s num fix qs ms => .tup [.str tThing, .str s, .str num, .str fix, .tup (qs.map .str), .tup (mrsD ms)]
def mrsD : List (Txt × Txt × Txt × Txt × Txt × List Fil) → List D
  | [] => []
  | m :: ms => mrD m :: mrsD ms
def mrD : Txt × Txt × Txt × Txt × Txt × List Fil → D
  | (r, mo, t, y, d, fs) => .tup [.str r, .tup [.str tClause, .str mo, .str t, .str y, .str d, .tup (filsD fs)]]
def filsD : List Fil → List D
  | [] => []
  | f :: fs => filD f :: filsD fs
end
theorem filsD_map : ∀ fs, filsD fs = fs.map filD
  | [] => by unfold filsD; rfl
  | f :: fs => by unfold filsD; rw [filsD_map fs]; rfl
theorem mrsD_map : ∀ ms, mrsD ms = ms.map mrD
  | [] => by unfold mrsD; rfl
  | f :: fs => by unfold mrsD; rw [mrsD_map fs]; rfl
def clD (c : Cl) : D := .tup [.str tClause, .str c.1, .str c.2.1, .str c.2.2.1, .str c.2.2.2.1, .tup (c.2.2.2.2.map filD)]
theorem mrD_eq (m : Mr) : mrD m = .tup [.str m.1, clD m.2] := by
  obtain ⟨r, mo, t, y, d, fs⟩ := m
  unfold mrD clD
  rw [filsD_map]
theorem clD_mk (mo t y d : Txt) (fs : List Fil) : clD (mo, t, y, d, fs) = .tup [.str tClause, .str mo, .str t, .str y, .str d, .tup (fs.map filD)] := rfl
def Fil.isThing : Fil → Bool
  | .thing .. => true
  | _ => false
/-- the individual of a filler that is no thing -/
def ind (m : Mdl) (x : Nat) : Fil → Nat
  | .name s => (m.names.lookup s).getD 0
  | .one w => if w = tSpk then m.spk else if w = tHrr then m.hrr else x
  | .thing .. => 0
/-- what comes behind some fillers -/
def goes (m : Mdl) (S : Fil → Nat → Bool) (t d : Txt) (x : Nat) : List Fil → List Nat → Bool
  | [], b => decide ((t, d, b) ∈ m.facts)
  | .thing s num fix qs ms :: fs, b =>
    reached num fix ((List.range m.many).filter (S (.thing s num fix qs ms))).length (((List.range m.many).filter (S (.thing s num fix qs ms))).filter fun y => goes m S t d x fs (b ++ [y])).length
  | .one w :: fs, b => goes m S t d x fs (b ++ [ind m x (.one w)])
  | .name s :: fs, b => goes m S t d x fs (b ++ [ind m x (.name s)])
def tru (m : Mdl) (S : Fil → Nat → Bool) (c : Cl) (x : Nat) : Bool := goes m S c.2.1 c.2.2.2.1 x c.2.2.2.2 [] == decide (c.2.2.1 = tYes)
/-- is such: fuel for glosses and mores -/
def such (glo : Txt → Option Fil) (m : Mdl) : Nat → Fil → Nat → Bool
  | n + 1, .thing s num fix qs ms, x => (match glo s with
      | some gl => such glo m n gl x
      | none => decide ((s, x) ∈ m.kinds)) && qs.all (fun q => decide ((q, x) ∈ m.kinds)) && ms.all fun mr => tru m (such glo m n) mr.2 x
  | _, _, _ => false
/-! ### membership -/
open Classical in
theorem inList_pure {a : D} {ys : List D} (ha : Fi.Pure a = true) (hy : Pures ys = true) (hd : dep a ≤ 64) : inListD a ys = some (decide (a ∈ ys)) := by
  obtain ⟨p, e⟩ := py_pure ha
  obtain ⟨ps, es⟩ := pys_pure hy
  have h1 := depth_dep e
  unfold inListD
  rw [e, es]
  simp only
  rw [if_pos (by omega)]
  congr 1
  rw [Bool.eq_iff_iff, decide_eq_true_iff]
  clear h1 hd
  induction ys generalizing ps with
  | nil => cases es; simp
  | cons y ys ih =>
    unfold Pures at hy
    rw [Bool.and_eq_true] at hy
    obtain ⟨q, eq⟩ := py_pure hy.1
    obtain ⟨qs, eqs⟩ := pys_pure hy.2
    unfold D.pys at es
    rw [eq, eqs] at es
    cases es
    rw [List.any_cons, Bool.or_eq_true, ih hy.2 qs eqs, eqv_iff hy.1 ha eq e, List.mem_cons]
    exact or_congr ⟨fun h => h.symm, fun h => h.symm⟩ Iff.rfl
theorem pures_map {α : Type} {f : α → D} : ∀ (xs : List α), (∀ x ∈ xs, Fi.Pure (f x) = true) → Pures (xs.map f) = true
  | [], _ => rfl
  | x :: xs, h => by rw [List.map_cons]; unfold Pures; rw [h x (by simp), pures_map xs fun y hy => h y (by simp [hy])]; rfl
theorem deps_le {α : Type} {f : α → D} {k : Nat} : ∀ (xs : List α), (∀ x ∈ xs, dep (f x) ≤ k) → deps (xs.map f) ≤ k
  | [], _ => by simp [deps]
  | x :: xs, h => by rw [List.map_cons]; unfold deps; have := h x (by simp); have := deps_le xs fun y hy => h y (by simp [hy]); omega
theorem prD_inj {p q : Txt × Nat} (h : prD p = prD q) : p = q := by
  obtain ⟨a, b⟩ := p
  obtain ⟨c, d⟩ := q
  unfold prD at h
  simp at h
  obtain ⟨h1, h2⟩ := h
  have h2 : b = d := by omega
  rw [h1, h2]
theorem ints_inj : ∀ {a b : List Nat}, a.map (fun x : Nat => D.int x) = b.map (fun x : Nat => D.int x) → a = b
  | [], [], _ => rfl
  | [], _ :: _, h => by simp at h
  | _ :: _, [], h => by simp at h
  | x :: a, y :: b, h => by
    rw [List.map_cons, List.map_cons] at h
    injection h with h1 h2
    simp at h1
    have h1 : x = y := by omega
    rw [ints_inj h2, h1]
theorem fcD_inj {p q : Txt × Txt × List Nat} (h : fcD p = fcD q) : p = q := by
  obtain ⟨a, b, c⟩ := p
  obtain ⟨a', b', c'⟩ := q
  unfold fcD at h
  injection h with h
  injection h with h1 h
  injection h with h2 h
  injection h with h3 h
  injection h1 with h1
  injection h2 with h2
  injection h3 with h3
  have h1 : a = a' := h1
  have h2 : b = b' := h2
  have h3 : c = c' := ints_inj h3
  rw [h1, h2, h3]
theorem mem_map_inj {α : Type} {f : α → D} (hf : ∀ {x y}, f x = f y → x = y) {a : α} {l : List α} : f a ∈ l.map f ↔ a ∈ l := by
  rw [List.mem_map]
  exact ⟨fun ⟨x, hx, e⟩ => hf e ▸ hx, fun h => ⟨a, h, rfl⟩⟩
theorem inList_kinds (s : Txt) (x : Nat) (ks : List (Txt × Nat)) : inListD (.tup [.str s, .int x]) (ks.map prD) = some (decide ((s, x) ∈ ks)) := by
  classical
  have h := inList_pure (a := prD (s, x)) (ys := ks.map prD) rfl (pures_map ks fun _ _ => rfl) (by unfold prD; simp [dep, deps])
  rw [show D.tup [.str s, .int x] = prD (s, x) from rfl, h]
  congr 1
  rw [Bool.eq_iff_iff, decide_eq_true_iff, decide_eq_true_iff]
  exact mem_map_inj prD_inj
theorem pure_fc (f : Txt × Txt × List Nat) : Fi.Pure (fcD f) = true := by
  unfold fcD
  simp only [Fi.Pure, Pures, Bool.and_true, Bool.true_and]
  exact pures_map _ fun _ _ => rfl
theorem dep_fc (f : Txt × Txt × List Nat) : dep (fcD f) ≤ 64 := by
  unfold fcD
  have := deps_le (f := fun x : Nat => D.int x) (k := 0) f.2.2 (fun _ _ => by simp [dep])
  simp only [dep, deps]
  omega
theorem inList_facts (t d : Txt) (b : List Nat) (fs : List (Txt × Txt × List Nat)) : inListD (.tup [.str t, .str d, .tup (b.map fun x : Nat => D.int x)]) (fs.map fcD) = some (decide ((t, d, b) ∈ fs)) := by
  classical
  have h := inList_pure (a := fcD (t, d, b)) (ys := fs.map fcD) (pure_fc _) (pures_map fs fun _ _ => pure_fc _) (dep_fc _)
  rw [show D.tup [.str t, .str d, .tup (b.map fun x : Nat => D.int x)] = fcD (t, d, b) from rfl, h]
  congr 1
  rw [Bool.eq_iff_iff, decide_eq_true_iff, decide_eq_true_iff]
  exact mem_map_inj fcD_inj
/-! ### goes_on -/
theorem go_end (n : Nat) (gd xd : D) (m : Mdl) (mo t y d : Txt) (fs : List Fil) (b : List Nat) (h : b.length = fs.length) :
    Fi.run T G (n + 1) "goes_on" [(false, gd), (false, mD m), (false, clD (mo, t, y, d, fs)), (false, .tup (b.map fun x : Nat => D.int x)), (false, xd)] = some (.sh (.bl (decide ((t, d, b) ∈ m.facts))), [.sh gd, .sh (mD m), .sh (clD (mo, t, y, d, fs)), .sh (.tup (b.map fun x : Nat => D.int x)), .sh xd]) := by
  refine run_eq (fn := f_goes_on) (E0 := ⟨[.sh gd, .sh (mD m), .sh (clD (mo, t, y, d, fs)), .sh (.tup (b.map fun x : Nat => D.int x)), .sh xd, .un, .un, .un, .un, .un, .un, .un, .un], []⟩) rfl rfl rfl ?_
  have hi := inList_facts t d b m.facts
  have he := eqv_int
  unfold f_goes_on c_goes_on mD
  simp only [clD_mk] at *
  generalize k1_goes_on = kk at *
  generalize T = T' at *
  walk_at "fi"
theorem go_other (n : Nat) (gd md xd : D) (mo t y d : Txt) (fs : List Fil) (b : List Nat) (hb : b.length ≤ 100) (f : Fil) (w : Txt) (more : List D) (hf : filD f = .tup (.str w :: more)) (hw : w ≠ tThing) (hlt : b.length < fs.length) (hget : fs[b.length]? = some f) (k : Nat) (r : Bool)
    (h1 : Fi.run T G n "individual_of" [(false, md), (false, .tup (.str w :: more)), (false, xd)] = some (.sh (.int k), [.sh md, .sh (.tup (.str w :: more)), .sh xd]))
    (h2 : Fi.run T G n "goes_on" [(false, gd), (false, md), (false, clD (mo, t, y, d, fs)), (false, .tup ((b.map fun x : Nat => D.int x) ++ [.int k])), (false, xd)] = some (.sh (.bl r), [.sh gd, .sh md, .sh (clD (mo, t, y, d, fs)), .sh (.tup ((b.map fun x : Nat => D.int x) ++ [.int k])), .sh xd])) :
    Fi.run T G (n + 1) "goes_on" [(false, gd), (false, md), (false, clD (mo, t, y, d, fs)), (false, .tup (b.map fun x : Nat => D.int x)), (false, xd)] = some (.sh (.bl r), [.sh gd, .sh md, .sh (clD (mo, t, y, d, fs)), .sh (.tup (b.map fun x : Nat => D.int x)), .sh xd]) := by
  refine run_eq (fn := f_goes_on) (E0 := ⟨[.sh gd, .sh md, .sh (clD (mo, t, y, d, fs)), .sh (.tup (b.map fun x : Nat => D.int x)), .sh xd, .un, .un, .un, .un, .un, .un, .un, .un], []⟩) rfl rfl rfl ?_
  have he := eqv_int
  have hne : ¬ (b.length : Int) = (fs.length : Int) := by omega
  have hlt' : (b.length : Int) < (fs.length : Int) := by omega
  have hge : fs[b.length] = f := by rw [List.getElem?_eq_getElem hlt] at hget; exact Option.some.inj hget
  have hm : (0 : Int) < (more.length : Int) + 1 := by omega
  have hbl : b.length + 1 ≤ 16777216 := by omega
  have i1 := io_individual_of
  have i2 := io_goes_on
  unfold f_goes_on c_goes_on
  simp only [clD_mk] at *
  unfold tThing at hw
  generalize k1_goes_on = kk at *
  generalize T = T' at *
  walk_at "fi"
theorem cmp_goes_on (n : Nat) (T' : Str → Option Fn) (gd md cd xd : D) (b us : List Nat) (p : Nat → Bool) (hb : b.length ≤ 100) (hu : us.length ≤ 1000) (s5 s6 s7 s8 s9 : Sl) (i1 : (ctxOf T' G n).io "goes_on" = [false, false, false, false, false])
    (h : ∀ k ∈ us, Fi.run T' G n "goes_on" [(false, gd), (false, md), (false, cd), (false, .tup ((b.map fun x : Nat => D.int x) ++ [.int k])), (false, xd)] = some (.sh (.bl (p k)), [.sh gd, .sh md, .sh cd, .sh (.tup ((b.map fun x : Nat => D.int x) ++ [.int k])), .sh xd])) :
    evE (ctxOf T' G n) k1_goes_on ⟨[.sh gd, .sh md, .sh cd, .sh (.tup (b.map fun x : Nat => D.int x)), .sh xd, s5, s6, s7, s8, s9, .sh (.tup (us.map fun x : Nat => D.int x)), .un, .un], []⟩ = some (.ow (.lst ((us.filter p).map fun x : Nat => D.int x)), ⟨[.sh gd, .sh md, .sh cd, .sh (.tup (b.map fun x : Nat => D.int x)), .sh xd, s5, s6, s7, s8, s9, .sh (.tup (us.map fun x : Nat => D.int x)), .un, .un], []⟩) := by
  refine cmpV_filter (fun k : Nat => D.int k) (fun k : Nat => D.int k) p us (d := .tup (us.map fun x : Nat => D.int x)) (l := none) (E1 := ⟨[.sh gd, .sh md, .sh cd, .sh (.tup (b.map fun x : Nat => D.int x)), .sh xd, s5, s6, s7, s8, s9, .sh (.tup (us.map fun x : Nat => D.int x)), .un, .un], []⟩) rfl rfl rfl rfl (fun k hk => ?_) (by unfold bigLine; omega) rfl
  have hh := h k hk
  have hbl : b.length + 1 ≤ 16777216 := by omega
  clear h
  cases hp : p k
  · rw [hp] at hh; walk_at "fi"
  · rw [hp] at hh; walk_at "fi"
theorem go_thing (n : Nat) (gd md xd : D) (mo t y d : Txt) (fs : List Fil) (b us : List Nat) (p : Nat → Bool) (hb : b.length ≤ 100) (hu : us.length ≤ 1000) (s num fix : Txt) (q me : D) (f : Fil) (hf : filD f = .tup [.str tThing, .str s, .str num, .str fix, q, me]) (hlt : b.length < fs.length) (hget : fs[b.length]? = some f)
    (h1 : Fi.run T G (n + 1) "such_ones" [(false, gd), (false, md), (false, .tup [.str tThing, .str s, .str num, .str fix, q, me])] = some (.sh (.tup (us.map fun x : Nat => D.int x)), [.sh gd, .sh md, .sh (.tup [.str tThing, .str s, .str num, .str fix, q, me])]))
    (h2 : ∀ k ∈ us, Fi.run T G (n + 1) "goes_on" [(false, gd), (false, md), (false, clD (mo, t, y, d, fs)), (false, .tup ((b.map fun x : Nat => D.int x) ++ [.int k])), (false, xd)] = some (.sh (.bl (p k)), [.sh gd, .sh md, .sh (clD (mo, t, y, d, fs)), .sh (.tup ((b.map fun x : Nat => D.int x) ++ [.int k])), .sh xd])) :
    Fi.run T G (n + 2) "goes_on" [(false, gd), (false, md), (false, clD (mo, t, y, d, fs)), (false, .tup (b.map fun x : Nat => D.int x)), (false, xd)] = some (.sh (.bl (reached num fix us.length (us.filter p).length)), [.sh gd, .sh md, .sh (clD (mo, t, y, d, fs)), .sh (.tup (b.map fun x : Nat => D.int x)), .sh xd]) := by
  refine run_eq (fn := f_goes_on) (E0 := ⟨[.sh gd, .sh md, .sh (clD (mo, t, y, d, fs)), .sh (.tup (b.map fun x : Nat => D.int x)), .sh xd, .un, .un, .un, .un, .un, .un, .un, .un], []⟩) rfl rfl rfl ?_
  have he := eqv_int
  have hne : ¬ (b.length : Int) = (fs.length : Int) := by omega
  have hlt' : (b.length : Int) < (fs.length : Int) := by omega
  have hge : fs[b.length] = f := by rw [List.getElem?_eq_getElem hlt] at hget; exact Option.some.inj hget
  have i1 := io_such_ones
  have i2 := io_is_reached
  have hc := cmp_goes_on (n + 1) T gd md (clD (mo, t, y, d, fs)) xd b us p hb hu (.sh (.str y)) (.sh (.str t)) (.sh (.str d)) (.sh (.tup (fs.map filD))) (.sh (.tup [.str tThing, .str s, .str num, .str fix, q, me])) (io_goes_on _) h2
  have h3 := run_is_reached n tThing s num fix q me (us.map fun x : Nat => D.int x) ((us.filter p).map fun x : Nat => D.int x)
  rw [List.length_map, List.length_map] at h3
  clear h2
  unfold f_goes_on c_goes_on
  simp only [clD_mk] at *
  unfold tThing at *
  generalize k1_goes_on = kk at *
  generalize T = T' at *
  generalize hL : ((us.filter p).map fun x : Nat => D.int x) = L at *
  generalize hU : (us.map fun x : Nat => D.int x) = U at *
  generalize reached num fix us.length (us.filter p).length = bb at *
  walk_at "fi"
end K56
end

section
set_option maxRecDepth 100000
set_option maxHeartbeats 4000000
namespace K56
open PySem L2 Fi
local macro_rules | `(tactic| walk_at "fi") => `(tactic| simp [WB_cons, WB_nil, WS_asg, WS_par, WS_aug, WS_augIx, WS_setIx, WS_ex, WS_ret, WS_retN, WS_brk, WS_cnt, WS_pas, WS_ite, iteQ_some, iteT_t, iteT_f, cont_nx, cont_rt, cont_bk, cont_ct, Lp_nx, Lp_ct, Lp_rt, Lp_bk, Lw_nx, Lw_ct, Lw_rt, Lw_bk, WT, Done_rt, Done_nx, giveD_sh, giveD_ow, giveD_pk, finsD, rg0, rg1, rg2, rg3, rg4, rg5, rg6, evS, evE, evEs, evO, evT, evI, evFs, Env.tkf, putp, Env.get, Env.put, Env.vw, Env.rd, Env.tk, Env.tks, Env.free, Rs.fz, op2D, addD, subD, mulD, fdivD, modD, powD, cmpA, ordD, nlk_un, nlk_sh, nlk_ow, nlk_lk, isD, iopD, iaddD, inopD, iaddI, op1D, PR.rs, D.truth, D.len, ixD, ix, partD, cutD, revD, lenB, absB, intB, tupleB, listB, anyB, allB, isinstB, bltD, getB, mthD, mthTy, appendB, extendB, popB, mutD, mutTy, setD, D.key, DKey.ok, tyNames, D.tyName, tySub, lock, unlock, lkFree, seqD, puts, bindT, Tg.slots, wipeE, back, argsOf, lent, lentOk, Ar.pass, behind, dk_ss, dk_ii, dk_si, dk_is, bigLine, ownOk, mapOut, turnF, dictAt, lockVar, hide, unhide, bls, inD, D.isNon, List.lookup, ctx_call, io_row_of, io_kind_of, io_roles_of, io_gloss_of, io_senses_of_kind, io_is_such, io_such_ones, io_individual_of, io_is_reached, io_goes_on, io_true_of, io_true_in, io_answer_in, io_is_number, io_is_ascending, io_is_individual, io_is_pair, io_are_pairs, io_is_fact, io_are_facts, io_are_all_names, io_is_model, io_law_draws, io_law_next, io_law_pick, io_law_same, io_law_ground, io_law_of_kind, io_law_text_of, io_law_more_text, io_law_thing, io_law_more, io_law_filler, io_law_meaning, io_law_model, io_law_wider, io_law, *])
local macro_rules | `(tactic| walk_at "fs") => `(tactic| simp [WB_cons, WB_nil, WS_asg, WS_par, WS_aug, WS_augIx, WS_setIx, WS_ex, WS_ret, WS_retN, WS_brk, WS_cnt, WS_pas, WS_ite, iteQ_some, iteT_t, iteT_f, cont_nx, cont_rt, cont_bk, cont_ct, Lp_nx, Lp_ct, Lp_rt, Lp_bk, Lw_nx, Lw_ct, Lw_rt, Lw_bk, WT, Done_rt, Done_nx, giveD_sh, giveD_ow, giveD_pk, finsD, rg0, rg1, rg2, rg3, rg4, rg5, rg6, evS, evE, evEs, evO, evT, evI, evFs, Env.tkf, putp, Env.get, Env.put, Env.vw, Env.rd, Env.tk, Env.tks, Env.free, Rs.fz, op2D, addD, subD, mulD, fdivD, modD, powD, cmpA, ordD, nlk_un, nlk_sh, nlk_ow, nlk_lk, isD, iopD, iaddD, inopD, iaddI, op1D, PR.rs, D.truth, D.len, ixD, ix, partD, cutD, revD, lenB, absB, intB, tupleB, listB, anyB, allB, isinstB, bltD, getB, mthD, mthTy, appendB, extendB, popB, mutD, mutTy, tyNames, D.tyName, tySub, lock, unlock, lkFree, seqD, puts, bindT, Tg.slots, wipeE, back, argsOf, lent, lentOk, Ar.pass, behind, dk_ss, dk_ii, dk_si, dk_is, bigLine, ownOk, mapOut, turnF, dictAt, lockVar, hide, unhide, bls, inD, D.isNon, List.lookup, ctx_call, io_row_of, io_kind_of, io_roles_of, io_gloss_of, io_senses_of_kind, io_is_such, io_such_ones, io_individual_of, io_is_reached, io_goes_on, io_true_of, io_true_in, io_answer_in, io_is_number, io_is_ascending, io_is_individual, io_is_pair, io_are_pairs, io_is_fact, io_are_facts, io_are_all_names, io_is_model, io_law_draws, io_law_next, io_law_pick, io_law_same, io_law_ground, io_law_of_kind, io_law_text_of, io_law_more_text, io_law_thing, io_law_more, io_law_filler, io_law_meaning, io_law_model, io_law_wider, io_law, *])
theorem bls_map {α : Type} (p : α → Bool) : ∀ xs : List α, bls (xs.map fun x => D.bl (p x)) = some (xs.map p)
  | [] => by unfold bls; rfl
  | x :: xs => by rw [List.map_cons]; unfold bls; rw [bls_map p xs]; rfl
def mrD' (mr : Mr) : D := .tup [.str mr.1, clD mr.2]
theorem mrsD_map' (ms : List Mr) : mrsD ms = ms.map mrD' := by
  rw [mrsD_map]
  exact List.map_congr_left fun m _ => mrD_eq m
theorem cmp_quals (C : Fi.Ctx) (gd td s4 s5 s7 s8 : D) (m : Mdl) (x : Nat) (qs : List Txt) (hq : qs.length ≤ 1000) :
    evE C k2_is_such ⟨[.sh gd, .sh (mD m), .sh td, .sh (.int x), .sh s4, .sh s5, .sh (.tup (qs.map .str)), .sh s7, .sh s8, .un, .un], []⟩ = some (.ow (.lst (qs.map fun q => .bl (decide ((q, x) ∈ m.kinds)))), ⟨[.sh gd, .sh (mD m), .sh td, .sh (.int x), .sh s4, .sh s5, .sh (.tup (qs.map .str)), .sh s7, .sh s8, .un, .un], []⟩) := by
  refine cmpV_map (fun q : Txt => D.str q) (fun q => .bl (decide ((q, x) ∈ m.kinds))) qs (d := .tup (qs.map .str)) (l := none) (E1 := ⟨[.sh gd, .sh (mD m), .sh td, .sh (.int x), .sh s4, .sh s5, .sh (.tup (qs.map .str)), .sh s7, .sh s8, .un, .un], []⟩) rfl rfl rfl rfl (fun q _ => ?_) (by unfold bigLine; omega) rfl
  have hi := inList_kinds q x m.kinds
  unfold mD
  walk_at "fi"
theorem cmp_mores (n : Nat) (T' : Str → Option Fn) (gd md td s4 s5 s6 s8 xd : D) (ms : List Mr) (p : Mr → Bool) (hm : ms.length ≤ 1000) (i1 : (ctxOf T' G n).io "true_of" = [false, false, false, false])
    (h : ∀ mr ∈ ms, Fi.run T' G n "true_of" [(false, gd), (false, md), (false, clD mr.2), (false, xd)] = some (.sh (.bl (p mr)), [.sh gd, .sh md, .sh (clD mr.2), .sh xd])) :
    evE (ctxOf T' G n) k1_is_such ⟨[.sh gd, .sh md, .sh td, .sh xd, .sh s4, .sh s5, .sh s6, .sh (.tup (ms.map mrD')), .sh s8, .un, .un], []⟩ = some (.ow (.lst (ms.map fun mr => .bl (p mr))), ⟨[.sh gd, .sh md, .sh td, .sh xd, .sh s4, .sh s5, .sh s6, .sh (.tup (ms.map mrD')), .sh s8, .un, .un], []⟩) := by
  refine cmpV_map mrD' (fun mr => .bl (p mr)) ms (d := .tup (ms.map mrD')) (l := none) (E1 := ⟨[.sh gd, .sh md, .sh td, .sh xd, .sh s4, .sh s5, .sh s6, .sh (.tup (ms.map mrD')), .sh s8, .un, .un], []⟩) rfl rfl rfl rfl (fun mr hk => ?_) (by unfold bigLine; omega) rfl
  have hh := h mr hk
  clear h
  unfold mrD'
  generalize clD mr.2 = cd at *
  walk_at "fi"
theorem filD_tup : ∀ f : Fil, ∃ l, filD f = .tup l
  | .one w => ⟨_, by unfold filD; rfl⟩
  | .name s => ⟨_, by unfold filD; rfl⟩
  | .thing .. => ⟨_, by unfold filD; rfl⟩
theorem thing_D (s num fix : Txt) (qs : List Txt) (ms : List Mr) : filD (.thing s num fix qs ms) = .tup [.str tThing, .str s, .str num, .str fix, .tup (qs.map .str), .tup (ms.map mrD')] := by
  unfold filD
  rw [mrsD_map']
theorem such_none (n : Nat) (gd : D) (m : Mdl) (s num fix : Txt) (qs : List Txt) (ms : List Mr) (x : Nat) (p : Mr → Bool) (hq : qs.length ≤ 1000) (hm : ms.length ≤ 1000)
    (hg : Fi.run T G n "gloss_of" [(false, gd), (false, .str s)] = some (.sh .non, [.sh gd, .sh (.str s)]))
    (h : ∀ mr ∈ ms, Fi.run T G n "true_of" [(false, gd), (false, mD m), (false, clD mr.2), (false, .int x)] = some (.sh (.bl (p mr)), [.sh gd, .sh (mD m), .sh (clD mr.2), .sh (.int x)])) :
    Fi.run T G (n + 1) "is_such" [(false, gd), (false, mD m), (false, filD (.thing s num fix qs ms)), (false, .int x)] = some (.sh (.bl (decide ((s, x) ∈ m.kinds) && qs.all (fun q => decide ((q, x) ∈ m.kinds)) && ms.all p)), [.sh gd, .sh (mD m), .sh (filD (.thing s num fix qs ms)), .sh (.int x)]) := by
  rw [thing_D]
  have c2 := cmp_quals (ctxOf T G n) gd (.tup [.str tThing, .str s, .str num, .str fix, .tup (qs.map .str), .tup (ms.map mrD')]) (.str fix) (.str s) (.tup (ms.map mrD')) .non m x qs hq
  have c1 := cmp_mores n T gd (mD m) (.tup [.str tThing, .str s, .str num, .str fix, .tup (qs.map .str), .tup (ms.map mrD')]) (.str fix) (.str s) (.tup (qs.map .str)) .non (.int x) ms p hm (io_true_of n) h
  refine run_eq (fn := f_is_such) (E0 := ⟨[.sh gd, .sh (mD m), .sh (.tup [.str tThing, .str s, .str num, .str fix, .tup (qs.map .str), .tup (ms.map mrD')]), .sh (.int x), .un, .un, .un, .un, .un, .un, .un], []⟩) rfl rfl rfl ?_
  have hi := inList_kinds s x m.kinds
  have b1 := bls_map p ms
  have b2 := bls_map (fun q => decide ((q, x) ∈ m.kinds)) qs
  have i1 := io_gloss_of
  clear h
  unfold f_is_such c_is_such
  generalize k1_is_such = kk1 at *
  generalize k2_is_such = kk2 at *
  generalize T = T' at *
  generalize hms : ms.map mrD' = M at *
  generalize hqs : qs.map D.str = Q at *
  generalize hL1 : (ms.map fun mr => D.bl (p mr)) = L1 at *
  generalize hL2 : (qs.map fun q => D.bl (decide ((q, x) ∈ m.kinds))) = L2 at *
  have e1 : (qs.map fun q => decide ((q, x) ∈ m.kinds)).all id = qs.all fun q => decide ((q, x) ∈ m.kinds) := by rw [List.all_map]; rfl
  have e2 : (ms.map p).all id = ms.all p := by rw [List.all_map]; rfl
  generalize (qs.map fun q => decide ((q, x) ∈ m.kinds)) = B2 at *
  generalize ms.map p = B1 at *
  rw [← e1, ← e2]
  clear e1 e2 hL1 hL2 hms hqs
  unfold mD at *
  by_cases hk : (s, x) ∈ m.kinds
  · cases hb2 : B2.all id
    · walk_at "fi"
    · walk_at "fi"
  · walk_at "fi"
theorem such_gloss (n : Nat) (gd : D) (m : Mdl) (s num fix : Txt) (qs : List Txt) (ms : List Mr) (x : Nat) (p : Mr → Bool) (hq : qs.length ≤ 1000) (hm : ms.length ≤ 1000) (gl : Fil) (sg : Bool)
    (hg : Fi.run T G n "gloss_of" [(false, gd), (false, .str s)] = some (.sh (filD gl), [.sh gd, .sh (.str s)]))
    (hs : Fi.run T G n "is_such" [(false, gd), (false, mD m), (false, filD gl), (false, .int x)] = some (.sh (.bl sg), [.sh gd, .sh (mD m), .sh (filD gl), .sh (.int x)]))
    (h : ∀ mr ∈ ms, Fi.run T G n "true_of" [(false, gd), (false, mD m), (false, clD mr.2), (false, .int x)] = some (.sh (.bl (p mr)), [.sh gd, .sh (mD m), .sh (clD mr.2), .sh (.int x)])) :
    Fi.run T G (n + 1) "is_such" [(false, gd), (false, mD m), (false, filD (.thing s num fix qs ms)), (false, .int x)] = some (.sh (.bl (sg && qs.all (fun q => decide ((q, x) ∈ m.kinds)) && ms.all p)), [.sh gd, .sh (mD m), .sh (filD (.thing s num fix qs ms)), .sh (.int x)]) := by
  rw [thing_D]
  obtain ⟨gt, hgt⟩ := filD_tup gl
  rw [hgt] at hg hs
  have c2 := cmp_quals (ctxOf T G n) gd (.tup [.str tThing, .str s, .str num, .str fix, .tup (qs.map .str), .tup (ms.map mrD')]) (.str fix) (.str s) (.tup (ms.map mrD')) (.tup gt) m x qs hq
  have c1 := cmp_mores n T gd (mD m) (.tup [.str tThing, .str s, .str num, .str fix, .tup (qs.map .str), .tup (ms.map mrD')]) (.str fix) (.str s) (.tup (qs.map .str)) (.tup gt) (.int x) ms p hm (io_true_of n) h
  refine run_eq (fn := f_is_such) (E0 := ⟨[.sh gd, .sh (mD m), .sh (.tup [.str tThing, .str s, .str num, .str fix, .tup (qs.map .str), .tup (ms.map mrD')]), .sh (.int x), .un, .un, .un, .un, .un, .un, .un], []⟩) rfl rfl rfl ?_
  have hi := inList_kinds s x m.kinds
  have b1 := bls_map p ms
  have b2 := bls_map (fun q => decide ((q, x) ∈ m.kinds)) qs
  have i1 := io_gloss_of
  have i2 := io_is_such
  clear h hgt
  unfold f_is_such c_is_such
  generalize k1_is_such = kk1 at *
  generalize k2_is_such = kk2 at *
  generalize T = T' at *
  generalize hms : ms.map mrD' = M at *
  generalize hqs : qs.map D.str = Q at *
  generalize hL1 : (ms.map fun mr => D.bl (p mr)) = L1 at *
  generalize hL2 : (qs.map fun q => D.bl (decide ((q, x) ∈ m.kinds))) = L2 at *
  have e1 : (qs.map fun q => decide ((q, x) ∈ m.kinds)).all id = qs.all fun q => decide ((q, x) ∈ m.kinds) := by rw [List.all_map]; rfl
  have e2 : (ms.map p).all id = ms.all p := by rw [List.all_map]; rfl
  generalize (qs.map fun q => decide ((q, x) ∈ m.kinds)) = B2 at *
  generalize ms.map p = B1 at *
  rw [← e1, ← e2]
  clear e1 e2 hL1 hL2 hms hqs
  generalize mD m = md at *
  cases sg
  · walk_at "fi"
  · cases hb2 : B2.all id
    · walk_at "fi"
    · walk_at "fi"
/-! ### all of truth -/
/-- fuel is enough for the glosses and mores of a filler -/
def deep (glo : Txt → Option Fil) (m : Mdl) : Nat → Fil → Prop
  | _, .one _ => True
  | _, .name s => ∃ k, m.names.lookup s = some k
  | 0, .thing .. => False
  | n + 1, .thing s _ _ qs ms => qs.length ≤ 1000 ∧ ms.length ≤ 1000 ∧ (∀ gl, glo s = some gl → gl.isThing = true ∧ deep glo m n gl) ∧ ∀ mr ∈ ms, mr.2.2.2.2.2.length ≤ 3 ∧ ∀ f ∈ mr.2.2.2.2.2, deep glo m n f
def gloIs (g : List Rw) (glo : Txt → Option Fil) : Prop := (∀ r ∈ g, r.k = tGloss → r.more ≠ []) ∧ ∀ s, partOf tGloss g s = match glo s with
  | none => .non
  | some f => filD f
theorem run_goes (g : List Rw) (m : Mdl) (S : Fil → Nat → Bool) (N : Nat) (xd : D) (x : Nat) (mo t y d : Txt) (hn : (m.names.map (·.1)).Nodup) (hmm : m.many ≤ 100) :
    ∀ (fs pre : List Fil) (b : List Nat), pre.length + fs.length ≤ 50 → b.length = pre.length →
    (∀ f ∈ fs, f.isThing = true → ∀ n, N ≤ n → ∀ k < m.many, Fi.run T G n "is_such" [(false, gD g), (false, mD m), (false, filD f), (false, .int k)] = some (.sh (.bl (S f k)), [.sh (gD g), .sh (mD m), .sh (filD f), .sh (.int k)])) →
    (∀ f ∈ fs, ∀ s, f = .name s → ∃ k, m.names.lookup s = some k) →
    (∀ f ∈ fs, ∀ w, f = .one w → w ≠ tName ∧ w ≠ tThing ∧ (w = tSpk ∨ w = tHrr ∨ xd = .int x)) →
    ∀ n, N + 3 + fs.length ≤ n → Fi.run T G n "goes_on" [(false, gD g), (false, mD m), (false, clD (mo, t, y, d, pre ++ fs)), (false, .tup (b.map fun x : Nat => D.int x)), (false, xd)] = some (.sh (.bl (goes m S t d x fs b)), [.sh (gD g), .sh (mD m), .sh (clD (mo, t, y, d, pre ++ fs)), .sh (.tup (b.map fun x : Nat => D.int x)), .sh xd]) := by
  intro fs
  induction fs with
  | nil =>
    intro pre b hp hb _ _ _ n hn'
    obtain ⟨k, rfl⟩ : ∃ k, n = k + 1 := ⟨n - 1, by omega⟩
    rw [goes]
    exact go_end k (gD g) xd m mo t y d (pre ++ []) b (by simpa using hb)
  | cons f fs ih =>
    intro pre b hp hb hS hN hX n hn'
    simp only [List.length_cons] at hn' hp
    have hlt : b.length < (pre ++ f :: fs).length := by simp; omega
    have hget : (pre ++ f :: fs)[b.length]? = some f := by rw [hb]; simp
    have recu : ∀ (k n : Nat), N + 3 + fs.length ≤ n → Fi.run T G n "goes_on" [(false, gD g), (false, mD m), (false, clD (mo, t, y, d, pre ++ f :: fs)), (false, .tup ((b.map fun x : Nat => D.int x) ++ [.int k])), (false, xd)] = some (.sh (.bl (goes m S t d x fs (b ++ [k]))), [.sh (gD g), .sh (mD m), .sh (clD (mo, t, y, d, pre ++ f :: fs)), .sh (.tup ((b.map fun x : Nat => D.int x) ++ [.int k])), .sh xd]) := by
      intro k n hk
      have e := ih (pre ++ [f]) (b ++ [k]) (by simp; omega) (by simp; omega) (fun f' h => hS f' (by simp [h])) (fun f' h => hN f' (by simp [h])) (fun f' h => hX f' (by simp [h])) n hk
      rw [List.append_assoc, List.singleton_append, List.map_append] at e
      exact e
    have hp' : b.length ≤ 100 := by omega
    cases f with
    | one w =>
      obtain ⟨w1, w2, w3⟩ := hX _ (by simp) w rfl
      obtain ⟨j, rfl⟩ : ∃ k, n = k + 2 := ⟨n - 2, by omega⟩
      rw [goes]
      refine go_other (j + 1) (gD g) (mD m) xd mo t y d _ b hp' (.one w) w [] (by unfold filD; rfl) w2 hlt hget (ind m x (.one w)) _ ?_ (recu _ _ (by omega))
      by_cases h1 : w = tSpk
      · subst h1
        rw [show ind m x (.one tSpk) = m.spk by simp [ind]]
        exact run_ind_spk j m xd
      · by_cases h2 : w = tHrr
        · subst h2
          rw [show ind m x (.one tHrr) = m.hrr by simp [ind, h1]]
          exact run_ind_hrr j m xd
        · rw [show ind m x (.one w) = x by simp [ind, h1, h2]]
          rcases w3 with w3 | w3 | w3
          · exact absurd w3 h1
          · exact absurd w3 h2
          · have := run_ind_x j m w xd w1 h1 h2
            rw [w3] at this ⊢
            exact this
    | name s =>
      obtain ⟨k, hk⟩ := hN _ (by simp) s rfl
      obtain ⟨j, rfl⟩ : ∃ k, n = k + 2 := ⟨n - 2, by omega⟩
      rw [goes]
      refine go_other (j + 1) (gD g) (mD m) xd mo t y d _ b hp' (.name s) tName [.str s] (by unfold filD; rfl) (by decide) hlt hget (ind m x (.name s)) _ ?_ (recu _ _ (by omega))
      rw [show ind m x (.name s) = k by unfold ind; simp only; rw [hk]; rfl]
      exact run_ind_name j m s xd k hn hk
    | thing s num fix qs ms =>
      obtain ⟨j, rfl⟩ : ∃ k, n = k + 3 := ⟨n - 3, by omega⟩
      rw [goes]
      have h1 := run_such_ones (j + 1) (gD g) (filD (.thing s num fix qs ms)) m (S (.thing s num fix qs ms)) hmm fun k hk => hS _ (by simp) rfl (j + 1) (by omega) k hk
      rw [thing_D] at h1
      refine go_thing (j + 1) (gD g) (mD m) xd mo t y d _ b _ (fun k => goes m S t d x fs (b ++ [k])) hp' ?_ s num fix _ _ (.thing s num fix qs ms) (thing_D s num fix qs ms) hlt hget h1 (fun k _ => recu k _ (by omega))
      have := List.length_filter_le (S (.thing s num fix qs ms)) (List.range m.many)
      rw [List.length_range] at this
      omega
/-- a clause's truth -/
theorem run_tru (g : List Rw) (m : Mdl) (S : Fil → Nat → Bool) (N : Nat) (xd : D) (x : Nat) (c : Cl) (hn : (m.names.map (·.1)).Nodup) (hmm : m.many ≤ 100) (hl : c.2.2.2.2.length ≤ 3)
    (hS : ∀ f ∈ c.2.2.2.2, f.isThing = true → ∀ n, N ≤ n → ∀ k < m.many, Fi.run T G n "is_such" [(false, gD g), (false, mD m), (false, filD f), (false, .int k)] = some (.sh (.bl (S f k)), [.sh (gD g), .sh (mD m), .sh (filD f), .sh (.int k)]))
    (hN : ∀ f ∈ c.2.2.2.2, ∀ s, f = .name s → ∃ k, m.names.lookup s = some k)
    (hX : ∀ f ∈ c.2.2.2.2, ∀ w, f = .one w → w ≠ tName ∧ w ≠ tThing ∧ (w = tSpk ∨ w = tHrr ∨ xd = .int x)) (n : Nat) (h : N + 7 ≤ n) :
    Fi.run T G n "true_of" [(false, gD g), (false, mD m), (false, clD c), (false, xd)] = some (.sh (.bl (tru m S c x)), [.sh (gD g), .sh (mD m), .sh (clD c), .sh xd]) := by
  obtain ⟨j, rfl⟩ : ∃ k, n = k + 1 := ⟨n - 1, by omega⟩
  obtain ⟨mo, t, y, d, fs⟩ := c
  have e := run_goes g m S N xd x mo t y d hn hmm fs [] [] (by simp only [List.length_nil] at hl ⊢; omega) rfl hS hN hX j (by simp only at hl; omega)
  have e2 := run_true_of j (gD g) (mD m) xd mo t y d (.tup (fs.map filD)) (goes m S t d x fs []) e
  exact e2
theorem deep_lift (glo : Txt → Option Fil) (m : Mdl) : ∀ n f, deep glo m n f → (∀ s, f = .name s → ∃ k, m.names.lookup s = some k) := by
  intro n f h s e
  subst e
  cases n <;> exact h
def okOne (f : Fil) : Prop := ∀ w, f = .one w → w ≠ tName ∧ w ≠ tThing
/-- all words of one part are no names and no things -/
def okOnes : Nat → (Txt → Option Fil) → Fil → Prop
  | 0, _, f => okOne f
  | n + 1, glo, f => okOne f ∧ ∀ s num fix qs ms, f = .thing s num fix qs ms → (∀ gl, glo s = some gl → okOnes n glo gl) ∧ ∀ mr ∈ ms, ∀ f ∈ mr.2.2.2.2.2, okOnes n glo f
theorem run_such (g : List Rw) (glo : Txt → Option Fil) (hg : gloIs g glo) (m : Mdl) (hn : (m.names.map (·.1)).Nodup) (hmm : m.many ≤ 100) : ∀ (u : Nat) (f : Fil), f.isThing = true → deep glo m u f → okOnes u glo f → ∀ n, 9 * u ≤ n → ∀ k : Nat,
    Fi.run T G n "is_such" [(false, gD g), (false, mD m), (false, filD f), (false, .int k)] = some (.sh (.bl (such glo m u f k)), [.sh (gD g), .sh (mD m), .sh (filD f), .sh (.int k)])
  | 0, f, ht, hd, _, _, _, _ => by
    cases f with
    | one w => cases ht
    | name s => cases ht
    | thing => exact hd.elim
  | u + 1, f, ht, hd, ho, n, hu, k => by
    cases f with
    | one w => cases ht
    | name s => cases ht
    | thing s num fix qs ms =>
      obtain ⟨d1, d2, d3, d4⟩ := hd
      obtain ⟨o1, o2⟩ := ho
      obtain ⟨o2, o3⟩ := o2 _ _ _ _ _ rfl
      obtain ⟨j, rfl⟩ : ∃ k, n = k + 1 := ⟨n - 1, by omega⟩
      have hgl := run_gloss_of (j - 2) g s hg.1
      rw [show j - 2 + 2 = j by omega, hg.2 s] at hgl
      have hmr : ∀ mr ∈ ms, Fi.run T G j "true_of" [(false, gD g), (false, mD m), (false, clD mr.2), (false, .int k)] = some (.sh (.bl (tru m (such glo m u) mr.2 k)), [.sh (gD g), .sh (mD m), .sh (clD mr.2), .sh (.int k)]) := by
        intro mr hmr
        refine run_tru g m (such glo m u) (9 * u) (.int k) k mr.2 hn hmm (d4 mr hmr).1 (fun f hf ht n hn9 k _ => ?_) (fun f hf s e => deep_lift glo m u f ((d4 mr hmr).2 f hf) s e) (fun f hf w e => ?_) j (by omega)
        · exact run_such g glo hg m hn hmm u f ht ((d4 mr hmr).2 f hf) (o3 mr hmr f hf) n hn9 k
        · have ho := o3 mr hmr f hf
          have ho' : okOne f := by
            cases u
            · exact ho
            · exact ho.1
          exact ⟨(ho' w e).1, (ho' w e).2, .inr (.inr rfl)⟩
      rw [such]
      cases hc : glo s with
      | none =>
        rw [hc] at hgl
        simp only
        exact such_none j (gD g) m s num fix qs ms k (fun mr => tru m (such glo m u) mr.2 k) d1 d2 hgl hmr
      | some gl =>
        rw [hc] at hgl
        simp only at hgl ⊢
        obtain ⟨g1, g2⟩ := d3 gl hc
        exact such_gloss j (gD g) m s num fix qs ms k (fun mr => tru m (such glo m u) mr.2 k) d1 d2 gl _ hgl (run_such g glo hg m hn hmm u gl g1 g2 (o2 gl hc) j (by omega) k) hmr
end K56
end

section
set_option maxRecDepth 100000
set_option maxHeartbeats 4000000
namespace K56
open PySem L2 Fi
local macro_rules | `(tactic| walk_at "fi") => `(tactic| simp [WB_cons, WB_nil, WS_asg, WS_par, WS_aug, WS_augIx, WS_setIx, WS_ex, WS_ret, WS_retN, WS_brk, WS_cnt, WS_pas, WS_ite, iteQ_some, iteT_t, iteT_f, cont_nx, cont_rt, cont_bk, cont_ct, Lp_nx, Lp_ct, Lp_rt, Lp_bk, Lw_nx, Lw_ct, Lw_rt, Lw_bk, WT, Done_rt, Done_nx, giveD_sh, giveD_ow, giveD_pk, finsD, rg0, rg1, rg2, rg3, rg4, rg5, rg6, evS, evE, evEs, evO, evT, evI, evFs, Env.tkf, putp, Env.get, Env.put, Env.vw, Env.rd, Env.tk, Env.tks, Env.free, Rs.fz, op2D, addD, subD, mulD, fdivD, modD, powD, cmpA, ordD, nlk_un, nlk_sh, nlk_ow, nlk_lk, isD, iopD, iaddD, inopD, iaddI, op1D, PR.rs, D.truth, D.len, ixD, ix, partD, cutD, revD, lenB, absB, intB, tupleB, listB, anyB, allB, isinstB, bltD, getB, mthD, mthTy, appendB, extendB, popB, mutD, mutTy, setD, D.key, DKey.ok, tyNames, D.tyName, tySub, lock, unlock, lkFree, seqD, puts, bindT, Tg.slots, wipeE, back, argsOf, lent, lentOk, Ar.pass, behind, dk_ss, dk_ii, dk_si, dk_is, bigLine, ownOk, mapOut, turnF, dictAt, lockVar, hide, unhide, bls, inD, D.isNon, List.lookup, ctx_call, io_row_of, io_kind_of, io_roles_of, io_gloss_of, io_senses_of_kind, io_is_such, io_such_ones, io_individual_of, io_is_reached, io_goes_on, io_true_of, io_true_in, io_answer_in, io_is_number, io_is_ascending, io_is_individual, io_is_pair, io_are_pairs, io_is_fact, io_are_facts, io_are_all_names, io_is_model, io_law_draws, io_law_next, io_law_pick, io_law_same, io_law_ground, io_law_of_kind, io_law_text_of, io_law_more_text, io_law_thing, io_law_more, io_law_filler, io_law_meaning, io_law_model, io_law_wider, io_law, *])
local macro_rules | `(tactic| walk_at "fs") => `(tactic| simp [WB_cons, WB_nil, WS_asg, WS_par, WS_aug, WS_augIx, WS_setIx, WS_ex, WS_ret, WS_retN, WS_brk, WS_cnt, WS_pas, WS_ite, iteQ_some, iteT_t, iteT_f, cont_nx, cont_rt, cont_bk, cont_ct, Lp_nx, Lp_ct, Lp_rt, Lp_bk, Lw_nx, Lw_ct, Lw_rt, Lw_bk, WT, Done_rt, Done_nx, giveD_sh, giveD_ow, giveD_pk, finsD, rg0, rg1, rg2, rg3, rg4, rg5, rg6, evS, evE, evEs, evO, evT, evI, evFs, Env.tkf, putp, Env.get, Env.put, Env.vw, Env.rd, Env.tk, Env.tks, Env.free, Rs.fz, op2D, addD, subD, mulD, fdivD, modD, powD, cmpA, ordD, nlk_un, nlk_sh, nlk_ow, nlk_lk, isD, iopD, iaddD, inopD, iaddI, op1D, PR.rs, D.truth, D.len, ixD, ix, partD, cutD, revD, lenB, absB, intB, tupleB, listB, anyB, allB, isinstB, bltD, getB, mthD, mthTy, appendB, extendB, popB, mutD, mutTy, tyNames, D.tyName, tySub, lock, unlock, lkFree, seqD, puts, bindT, Tg.slots, wipeE, back, argsOf, lent, lentOk, Ar.pass, behind, dk_ss, dk_ii, dk_si, dk_is, bigLine, ownOk, mapOut, turnF, dictAt, lockVar, hide, unhide, bls, inD, D.isNon, List.lookup, ctx_call, io_row_of, io_kind_of, io_roles_of, io_gloss_of, io_senses_of_kind, io_is_such, io_such_ones, io_individual_of, io_is_reached, io_goes_on, io_true_of, io_true_in, io_answer_in, io_is_number, io_is_ascending, io_is_individual, io_is_pair, io_are_pairs, io_is_fact, io_are_facts, io_are_all_names, io_is_model, io_law_draws, io_law_next, io_law_pick, io_law_same, io_law_ground, io_law_of_kind, io_law_text_of, io_law_more_text, io_law_thing, io_law_more, io_law_filler, io_law_meaning, io_law_model, io_law_wider, io_law, *])
/-! models are taken -/
theorem run_is_pair (n : Nat) (g : List Rw) (s k : Txt) (x many : Nat) (ks : List Txt) (hk : kindOf g s = .str k) (hm : k ∈ ks) (hx : x < many) :
    Fi.run T G (n + 3) "is_pair" [(false, gD g), (false, .tup [.str s, .int x]), (false, .int many), (false, .tup (ks.map .str))] = some (.sh (.bl true), [.sh (gD g), .sh (.tup [.str s, .int x]), .sh (.int many), .sh (.tup (ks.map .str))]) := by
  refine run_eq (fn := f_is_pair) (E0 := ⟨[.sh (gD g), .sh (.tup [.str s, .int x]), .sh (.int many), .sh (.tup (ks.map .str))], []⟩) rfl rfl rfl ?_
  have h1 := run_kind_of n g s
  rw [hk] at h1
  have h2 := inList_txt k ks
  rw [decide_eq_true hm] at h2
  have h3 := run_is_individual n x many
  rw [decide_eq_true (show (0 : Int) ≤ x ∧ (x : Int) < many by omega)] at h3
  have he := eqv_int
  have i1 := io_kind_of
  have i2 := io_is_individual
  unfold f_is_pair c_is_pair
  generalize ks.map D.str = K at *
  generalize gD g = gd at *
  generalize T = T' at *
  walk_at "fi"
theorem bls_true {α : Type} : ∀ xs : List α, bls (xs.map fun _ => D.bl true) = some (xs.map fun _ => true)
  | [] => by unfold bls; rfl
  | x :: xs => by rw [List.map_cons]; unfold bls; rw [bls_true xs]; rfl
theorem all_true {α : Type} (xs : List α) : (xs.map fun _ => true).all id = true := by
  rw [List.all_eq_true]; intro x hx; rw [List.mem_map] at hx; obtain ⟨_, _, rfl⟩ := hx; rfl
theorem run_are_pairs (n : Nat) (g : List Rw) (ps : List (Txt × Nat)) (many : Nat) (ks : List Txt) (h : ∀ p ∈ ps, ∃ k, kindOf g p.1 = .str k ∧ k ∈ ks ∧ p.2 < many) (hl : ps.length ≤ 1000) (ha : Asc (ps.map prD)) :
    Fi.run T G (n + 4) "are_pairs" [(false, gD g), (false, .tup (ps.map prD)), (false, .int many), (false, .tup (ks.map .str))] = some (.sh (.bl true), [.sh (gD g), .sh (.tup (ps.map prD)), .sh (.int many), .sh (.tup (ks.map .str))]) := by
  refine run_eq (fn := f_are_pairs) (E0 := ⟨[.sh (gD g), .sh (.tup (ps.map prD)), .sh (.int many), .sh (.tup (ks.map .str)), .un], []⟩) rfl rfl rfl ?_
  have hc : evE (ctxOf T G (n + 3)) k1_are_pairs ⟨[.sh (gD g), .sh (.tup (ps.map prD)), .sh (.int many), .sh (.tup (ks.map .str)), .un], []⟩ = some (.ow (.lst (ps.map fun _ => .bl true)), ⟨[.sh (gD g), .sh (.tup (ps.map prD)), .sh (.int many), .sh (.tup (ks.map .str)), .un], []⟩) := by
    refine cmpV_map prD (fun _ => .bl true) ps (d := .tup (ps.map prD)) (l := none) (E1 := ⟨[.sh (gD g), .sh (.tup (ps.map prD)), .sh (.int many), .sh (.tup (ks.map .str)), .un], []⟩) rfl rfl rfl rfl (fun p hp => ?_) (by unfold bigLine; omega) rfl
    obtain ⟨k, h1, h2, h3⟩ := h p hp
    have hr := run_is_pair n g p.1 k p.2 many ks h1 h2 h3
    have i1 := io_is_pair
    clear h h1 h2 h3 ha
    unfold prD
    generalize ks.map D.str = K at *
    generalize gD g = gd at *
    generalize T = T' at *
    walk_at "fi"
  have h1 := run_is_ascending (n + 2) (ps.map prD) (by simpa using hl) ha
  have i1 := io_is_ascending
  have b1 := bls_true ps
  have b2 := all_true ps
  clear h ha
  unfold f_are_pairs c_are_pairs
  generalize k1_are_pairs = kk at *
  generalize ks.map D.str = K at *
  generalize ps.map prD = P at *
  generalize (ps.map fun _ => D.bl true) = P1 at *
  generalize (ps.map fun _ => true) = P2 at *
  generalize gD g = gd at *
  generalize T = T' at *
  walk_at "fi"
def tPast : Txt := [112, 97, 115, 116]
def tNow : Txt := [110, 111, 119]
def tLater : Txt := [108, 97, 116, 101, 114]
theorem run_is_fact (n : Nat) (g : List Rw) (hg : ∀ r ∈ g, r.k = tDoing → r.more ≠ []) (f : Txt × Txt × List Nat) (many : Nat) (rs : List D) (h1 : f.1 ∈ [tPast, tNow, tLater]) (h2 : kindOf g f.2.1 = .str tDoing) (h3 : partOf tDoing g f.2.1 = .tup rs) (h4 : f.2.2.length = rs.length) (h5 : ∀ x ∈ f.2.2, x < many) (h6 : f.2.2.length ≤ 1000) :
    Fi.run T G (n + 3) "is_fact" [(false, gD g), (false, fcD f), (false, .int many)] = some (.sh (.bl true), [.sh (gD g), .sh (fcD f), .sh (.int many)]) := by
  obtain ⟨t, d, xs⟩ := f
  simp only at *
  refine run_eq (fn := f_is_fact) (E0 := ⟨[.sh (gD g), .sh (fcD (t, d, xs)), .sh (.int many), .un], []⟩) rfl rfl rfl ?_
  have hc : evE (ctxOf T G (n + 2)) k1_is_fact ⟨[.sh (gD g), .sh (fcD (t, d, xs)), .sh (.int many), .un], []⟩ = some (.ow (.lst (xs.map fun _ => .bl true)), ⟨[.sh (gD g), .sh (fcD (t, d, xs)), .sh (.int many), .un], []⟩) := by
    refine cmp_map (fun x : Nat => D.int x) (fun _ => .bl true) xs (l := none) (E1 := ⟨[.sh (gD g), .sh (fcD (t, d, xs)), .sh (.int many), .un], []⟩) ?_ rfl (fun p hp => ?_) (by unfold bigLine; omega) rfl
    · clear h1 h2 h3 h4 h5 hg
      unfold fcD
      generalize T = T' at *
      walk_at "fi"
    · have hr := run_is_individual n p many
      rw [decide_eq_true (show (0 : Int) ≤ p ∧ (p : Int) < many by have := h5 p hp; omega)] at hr
      have i1 := io_is_individual
      clear h1 h2 h3 h4 h5 hg
      generalize fcD (t, d, xs) = fd at *
      generalize gD g = gd at *
      generalize T = T' at *
      walk_at "fi"
  have r1 := run_kind_of n g d
  rw [h2] at r1
  have r2 := run_roles_of n g d hg
  rw [h3] at r2
  have hi := inList_txt t [tPast, tNow, tLater]
  rw [decide_eq_true h1] at hi
  have he := eqv_int
  have hG : (ctxOf T G (n + 2)).glo "TIMES" = some (.tup ([tPast, tNow, tLater].map .str)) := rfl
  have i1 := io_kind_of
  have i2 := io_roles_of
  have b1 := bls_true xs
  have b2 := all_true xs
  clear h1 h2 h3 h5 hg
  unfold f_is_fact c_is_fact
  unfold fcD tDoing at *
  generalize k1_is_fact = kk at *
  generalize [tPast, tNow, tLater].map D.str = K at *
  generalize (xs.map fun _ => D.bl true) = P1 at *
  generalize (xs.map fun _ => true) = P2 at *
  generalize gD g = gd at *
  generalize T = T' at *
  walk_at "fi"
theorem run_are_facts (n : Nat) (g : List Rw) (fs : List (Txt × Txt × List Nat)) (many : Nat) (h : ∀ f ∈ fs, Fi.run T G (n + 3) "is_fact" [(false, gD g), (false, fcD f), (false, .int many)] = some (.sh (.bl true), [.sh (gD g), .sh (fcD f), .sh (.int many)])) (hl : fs.length ≤ 1000) (ha : Asc (fs.map fcD)) :
    Fi.run T G (n + 4) "are_facts" [(false, gD g), (false, .tup (fs.map fcD)), (false, .int many)] = some (.sh (.bl true), [.sh (gD g), .sh (.tup (fs.map fcD)), .sh (.int many)]) := by
  refine run_eq (fn := f_are_facts) (E0 := ⟨[.sh (gD g), .sh (.tup (fs.map fcD)), .sh (.int many), .un], []⟩) rfl rfl rfl ?_
  have hc : evE (ctxOf T G (n + 3)) k1_are_facts ⟨[.sh (gD g), .sh (.tup (fs.map fcD)), .sh (.int many), .un], []⟩ = some (.ow (.lst (fs.map fun _ => .bl true)), ⟨[.sh (gD g), .sh (.tup (fs.map fcD)), .sh (.int many), .un], []⟩) := by
    refine cmpV_map fcD (fun _ => .bl true) fs (d := .tup (fs.map fcD)) (l := none) (E1 := ⟨[.sh (gD g), .sh (.tup (fs.map fcD)), .sh (.int many), .un], []⟩) rfl rfl rfl rfl (fun p hp => ?_) (by unfold bigLine; omega) rfl
    have hr := h p hp
    have i1 := io_is_fact
    clear h ha
    generalize fcD p = fd at *
    generalize gD g = gd at *
    generalize T = T' at *
    walk_at "fi"
  have h1 := run_is_ascending (n + 2) (fs.map fcD) (by simpa using hl) ha
  have i1 := io_is_ascending
  have b1 := bls_true fs
  have b2 := all_true fs
  clear h ha
  unfold f_are_facts c_are_facts
  generalize k1_are_facts = kk at *
  generalize fs.map fcD = P at *
  generalize (fs.map fun _ => D.bl true) = P1 at *
  generalize (fs.map fun _ => true) = P2 at *
  generalize gD g = gd at *
  generalize T = T' at *
  walk_at "fi"
theorem run_are_all_names (n : Nat) (g : List Rw) (hg : g.length ≤ 1000) (ns : List (Txt × Nat)) (hl : ns.length ≤ 1000) (hs : sortB [.tup ((g.filter fun r => decide (r.k = tName)).map fun r => .str r.s)] = some (.fr (.lst (ns.map fun p => .str p.1)))) :
    Fi.run T G (n + 2) "are_all_names" [(false, gD g), (false, .tup (ns.map prD))] = some (.sh (.bl true), [.sh (gD g), .sh (.tup (ns.map prD))]) := by
  refine run_eq (fn := f_are_all_names) (E0 := ⟨[.sh (gD g), .sh (.tup (ns.map prD)), .un], []⟩) rfl rfl rfl ?_
  have hc : evE (ctxOf T G (n + 1)) k1_are_all_names ⟨[.sh (gD g), .sh (.tup (ns.map prD)), .un], []⟩ = some (.ow (.lst (ns.map fun p => .str p.1)), ⟨[.sh (gD g), .sh (.tup (ns.map prD)), .un], []⟩) := by
    refine cmpV_map prD (fun p => .str p.1) ns (d := .tup (ns.map prD)) (l := none) (E1 := ⟨[.sh (gD g), .sh (.tup (ns.map prD)), .un], []⟩) rfl rfl rfl rfl (fun p hp => ?_) (by unfold bigLine; omega) rfl
    clear hs
    unfold prD
    generalize gD g = gd at *
    generalize T = T' at *
    walk_at "fi"
  have h1 := run_senses_of_kind n g tName hg
  have i1 := io_senses_of_kind
  have he : D.eqv (.lst (ns.map fun p => .str p.1)) (.lst (ns.map fun p => .str p.1)) = some true := by
    rw [eqv_pure]
    · simp
    · unfold Fi.Pure; exact pures_map _ fun _ _ => rfl
    · unfold Fi.Pure; exact pures_map _ fun _ _ => rfl
    · have := deps_le (f := fun p : Txt × Nat => D.str p.1) (k := 0) ns (fun _ _ => by simp [dep])
      simp only [dep]
      omega
  unfold f_are_all_names c_are_all_names
  unfold tName at *
  generalize k1_are_all_names = kk at *
  generalize (ns.map prD) = P at *
  generalize (ns.map fun p => D.str p.1) = Q at *
  generalize ((g.filter fun r => decide (r.k = [110, 97, 109, 101])).map fun r => D.str r.s) = R at *
  clear hg hl
  generalize gD g = gd at *
  generalize T = T' at *
  walk_at "fi"
def tQuality : Txt := [113, 117, 97, 108, 105, 116, 121]
/-- what a model must be -/
structure OkM (g : List Rw) (m : Mdl) : Prop where
  m1 : 1 ≤ m.many
  m4 : m.many ≤ 4
  kinds : ∀ p ∈ m.kinds, ∃ k, kindOf g p.1 = .str k ∧ k ∈ [tThing, tQuality] ∧ p.2 < m.many
  kl : m.kinds.length ≤ 1000
  ka : Asc (m.kinds.map prD)
  names : ∀ p ∈ m.names, ∃ k, kindOf g p.1 = .str k ∧ k ∈ [tName] ∧ p.2 < m.many
  nl : m.names.length ≤ 1000
  na : Asc (m.names.map prD)
  all : sortB [.tup ((g.filter fun r => decide (r.k = tName)).map fun r => .str r.s)] = some (.fr (.lst (m.names.map fun p => .str p.1)))
  facts : ∀ f ∈ m.facts, f.1 ∈ [tPast, tNow, tLater] ∧ kindOf g f.2.1 = .str tDoing ∧ (∃ rs, partOf tDoing g f.2.1 = .tup rs ∧ f.2.2.length = rs.length) ∧ (∀ x ∈ f.2.2, x < m.many) ∧ f.2.2.length ≤ 1000
  fl : m.facts.length ≤ 1000
  fa : Asc (m.facts.map fcD)
  s : m.spk < m.many
  h : m.hrr < m.many
theorem run_is_model (n : Nat) (g : List Rw) (hgl : g.length ≤ 1000) (hg : ∀ r ∈ g, r.k = tDoing → r.more ≠ []) (m : Mdl) (o : OkM g m) : Fi.run T G (n + 5) "is_model" [(false, gD g), (false, mD m)] = some (.sh (.bl true), [.sh (gD g), .sh (mD m)]) := by
  refine run_eq (fn := f_is_model) (E0 := ⟨[.sh (gD g), .sh (mD m), .un, .un, .un, .un, .un, .un, .un], []⟩) rfl rfl rfl ?_
  have r1 := run_are_pairs n g m.kinds m.many [tThing, tQuality] o.kinds o.kl o.ka
  have r2 := run_are_pairs n g m.names m.many [tName] o.names o.nl o.na
  have r3 := run_are_all_names (n + 2) g hgl m.names o.nl o.all
  have r4 := run_are_facts n g m.facts m.many (fun f hf => by
    obtain ⟨f1, f2, ⟨rs, f3, f4⟩, f5, f6⟩ := o.facts f hf
    exact run_is_fact n g hg f m.many rs f1 f2 f3 f4 f5 f6) o.fl o.fa
  have r5 := run_is_number (n + 3) m.many
  rw [decide_eq_true (show (0 : Int) ≤ m.many by omega)] at r5
  have r6 := run_is_individual (n + 2) m.spk m.many
  have r7 := run_is_individual (n + 2) m.hrr m.many
  rw [decide_eq_true (show (0 : Int) ≤ m.spk ∧ (m.spk : Int) < m.many by have := o.s; omega)] at r6
  rw [decide_eq_true (show (0 : Int) ≤ m.hrr ∧ (m.hrr : Int) < m.many by have := o.h; omega)] at r7
  have hG : (ctxOf T G (n + 4)).glo "MOST_INDIVIDUALS" = some (.int 4) := rfl
  have c1 : (1 : Int) ≤ m.many := by have := o.m1; omega
  have c4 : (m.many : Int) ≤ 4 := by have := o.m4; omega
  have he := eqv_int
  have i1 := io_are_pairs
  have i2 := io_are_all_names
  have i3 := io_are_facts
  have i4 := io_is_number
  have i5 := io_is_individual
  clear o hgl hg
  unfold f_is_model c_is_model
  unfold mD tModel
  unfold tThing tQuality tName at *
  simp only [List.map_cons, List.map_nil] at r1 r2
  obtain ⟨many, kinds, names, facts, spk, hrr⟩ := m
  simp only at *
  generalize kinds.map prD = K at *
  generalize names.map prD = N at *
  generalize facts.map fcD = F at *
  generalize gD g = gd at *
  generalize (many : Int) = mi at *
  generalize T = T' at *
  walk_at "fi"
end K56
end

section
set_option maxRecDepth 100000
set_option maxHeartbeats 4000000
namespace K56
open PySem L2 Fi
local macro_rules | `(tactic| walk_at "fi") => `(tactic| simp [WB_cons, WB_nil, WS_asg, WS_par, WS_aug, WS_augIx, WS_setIx, WS_ex, WS_ret, WS_retN, WS_brk, WS_cnt, WS_pas, WS_ite, iteQ_some, iteT_t, iteT_f, cont_nx, cont_rt, cont_bk, cont_ct, Lp_nx, Lp_ct, Lp_rt, Lp_bk, Lw_nx, Lw_ct, Lw_rt, Lw_bk, WT, Done_rt, Done_nx, giveD_sh, giveD_ow, giveD_pk, finsD, rg0, rg1, rg2, rg3, rg4, rg5, rg6, evS, evE, evEs, evO, evT, evI, evFs, Env.tkf, putp, Env.get, Env.put, Env.vw, Env.rd, Env.tk, Env.tks, Env.free, Rs.fz, op2D, addD, subD, mulD, fdivD, modD, powD, cmpA, ordD, nlk_un, nlk_sh, nlk_ow, nlk_lk, isD, iopD, iaddD, inopD, iaddI, op1D, PR.rs, D.truth, D.len, ixD, ix, partD, cutD, revD, lenB, absB, intB, tupleB, listB, anyB, allB, isinstB, bltD, getB, mthD, mthTy, appendB, extendB, popB, mutD, mutTy, setD, D.key, DKey.ok, tyNames, D.tyName, tySub, lock, unlock, lkFree, seqD, puts, bindT, Tg.slots, wipeE, back, argsOf, lent, lentOk, Ar.pass, behind, dk_ss, dk_ii, dk_si, dk_is, bigLine, ownOk, mapOut, turnF, dictAt, lockVar, hide, unhide, bls, inD, D.isNon, List.lookup, ctx_call, io_row_of, io_kind_of, io_roles_of, io_gloss_of, io_senses_of_kind, io_is_such, io_such_ones, io_individual_of, io_is_reached, io_goes_on, io_true_of, io_true_in, io_answer_in, io_is_number, io_is_ascending, io_is_individual, io_is_pair, io_are_pairs, io_is_fact, io_are_facts, io_are_all_names, io_is_model, io_law_draws, io_law_next, io_law_pick, io_law_same, io_law_ground, io_law_of_kind, io_law_text_of, io_law_more_text, io_law_thing, io_law_more, io_law_filler, io_law_meaning, io_law_model, io_law_wider, io_law, *])
local macro_rules | `(tactic| walk_at "fs") => `(tactic| simp [WB_cons, WB_nil, WS_asg, WS_par, WS_aug, WS_augIx, WS_setIx, WS_ex, WS_ret, WS_retN, WS_brk, WS_cnt, WS_pas, WS_ite, iteQ_some, iteT_t, iteT_f, cont_nx, cont_rt, cont_bk, cont_ct, Lp_nx, Lp_ct, Lp_rt, Lp_bk, Lw_nx, Lw_ct, Lw_rt, Lw_bk, WT, Done_rt, Done_nx, giveD_sh, giveD_ow, giveD_pk, finsD, rg0, rg1, rg2, rg3, rg4, rg5, rg6, evS, evE, evEs, evO, evT, evI, evFs, Env.tkf, putp, Env.get, Env.put, Env.vw, Env.rd, Env.tk, Env.tks, Env.free, Rs.fz, op2D, addD, subD, mulD, fdivD, modD, powD, cmpA, ordD, nlk_un, nlk_sh, nlk_ow, nlk_lk, isD, iopD, iaddD, inopD, iaddI, op1D, PR.rs, D.truth, D.len, ixD, ix, partD, cutD, revD, lenB, absB, intB, tupleB, listB, anyB, allB, isinstB, bltD, getB, mthD, mthTy, appendB, extendB, popB, mutD, mutTy, tyNames, D.tyName, tySub, lock, unlock, lkFree, seqD, puts, bindT, Tg.slots, wipeE, back, argsOf, lent, lentOk, Ar.pass, behind, dk_ss, dk_ii, dk_si, dk_is, bigLine, ownOk, mapOut, turnF, dictAt, lockVar, hide, unhide, bls, inD, D.isNon, List.lookup, ctx_call, io_row_of, io_kind_of, io_roles_of, io_gloss_of, io_senses_of_kind, io_is_such, io_such_ones, io_individual_of, io_is_reached, io_goes_on, io_true_of, io_true_in, io_answer_in, io_is_number, io_is_ascending, io_is_individual, io_is_pair, io_are_pairs, io_is_fact, io_are_facts, io_are_all_names, io_is_model, io_law_draws, io_law_next, io_law_pick, io_law_same, io_law_ground, io_law_of_kind, io_law_text_of, io_law_more_text, io_law_thing, io_law_more, io_law_filler, io_law_meaning, io_law_model, io_law_wider, io_law, *])
/-! ### asks -/
mutual
theorem pure_fil : ∀ f : Fil, Fi.Pure (filD f) = true
  | .one w => by unfold filD; rfl
  | .name s => by unfold filD; rfl
  | .thing s num fix qs ms => by
    unfold filD
    simp only [Fi.Pure, Pures, Bool.and_true, Bool.true_and, Bool.and_eq_true]
    exact ⟨pures_map _ fun _ _ => rfl, pure_mrs ms⟩
theorem pure_mrs : ∀ ms : List (Txt × Txt × Txt × Txt × Txt × List Fil), Pures (mrsD ms) = true
  | [] => by unfold mrsD; rfl
  | m :: ms => by unfold mrsD; unfold Pures; rw [pure_mr m, pure_mrs ms]; rfl
theorem pure_mr : ∀ m : Txt × Txt × Txt × Txt × Txt × List Fil, Fi.Pure (mrD m) = true
  | (r, mo, t, y, d, fs) => by
    unfold mrD
    simp only [Fi.Pure, Pures, Bool.and_true, Bool.true_and]
    exact pure_fils fs
theorem pure_fils : ∀ fs : List Fil, Pures (filsD fs) = true
  | [] => by unfold filsD; rfl
  | f :: fs => by unfold filsD; unfold Pures; rw [pure_fil f, pure_fils fs]; rfl
end
def isWhich : Fil → Bool
  | .one w => decide (w = [119, 104, 105, 99, 104])
  | _ => false
theorem in_which (fs : List Fil) : inListD (.tup [.str [119, 104, 105, 99, 104]]) (fs.map filD) = some (fs.any isWhich) := by
  classical
  rw [inList_pure rfl (pures_map fs fun f _ => pure_fil f) (by simp [dep, deps])]
  congr 1
  rw [Bool.eq_iff_iff, decide_eq_true_iff, List.any_eq_true, List.mem_map]
  refine exists_congr fun f => and_congr_right fun _ => ?_
  cases f with
  | one w => unfold filD isWhich; simp
  | name s => unfold filD isWhich; simp
  | thing => unfold filD isWhich; simp
theorem run_true_in (n : Nat) (gd md cd : D) (b : Bool) (h : Fi.run T G n "true_of" [(false, gd), (false, md), (false, cd), (false, .non)] = some (.sh (.bl b), [.sh gd, .sh md, .sh cd, .sh .non])) :
    Fi.run T G (n + 1) "true_in" [(false, gd), (false, md), (false, cd)] = some (.sh (.bl b), [.sh gd, .sh md, .sh cd]) := by
  refine run_eq (fn := f_true_in) (E0 := ⟨[.sh gd, .sh md, .sh cd], []⟩) rfl rfl rfl ?_
  have i1 := io_true_of
  unfold f_true_in c_true_in
  generalize T = T' at *
  walk_at "fi"
theorem cmp_answer_in (n : Nat) (T' : Str → Option Fn) (gd td : D) (m : Mdl) (p : Nat → Bool) (hm : m.many ≤ 100) (i1 : (ctxOf T' G n).io "true_of" = [false, false, false, false])
    (h : ∀ x < m.many, Fi.run T' G n "true_of" [(false, gd), (false, mD m), (false, td), (false, .int x)] = some (.sh (.bl (p x)), [.sh gd, .sh (mD m), .sh td, .sh (.int x)])) :
    evE (ctxOf T' G n) k1_answer_in ⟨[.sh gd, .sh (mD m), .sh td, .un], []⟩ = some (.ow (.lst (((List.range m.many).filter p).map fun x : Nat => D.int x)), ⟨[.sh gd, .sh (mD m), .sh td, .un], []⟩) := by
  have hr : evI (ctxOf T' G n) (.rng1 (.idx (.var 1) (.con (.int 1)))) ⟨[.sh gd, .sh (mD m), .sh td, .un], []⟩ = some ((List.range m.many).map fun k : Nat => D.int k, none, ⟨[.sh gd, .sh (mD m), .sh td, .un], []⟩) := by
    refine evI_rng (n := m.many) ?_ (by omega)
    unfold mD
    clear h i1
    walk_at "fi"
  refine cmp_filter (fun k : Nat => D.int k) (fun k : Nat => D.int k) p (List.range m.many) (l := none) (E1 := ⟨[.sh gd, .sh (mD m), .sh td, .un], []⟩) hr rfl (fun k hk => ?_) (by rw [List.length_range]; unfold bigLine; omega) rfl
  rw [List.mem_range] at hk
  have hh := h k hk
  clear h hr hk
  generalize mD m = md at *
  cases hp : p k
  · rw [hp] at hh; walk_at "fi"
  · rw [hp] at hh; walk_at "fi"
theorem last_answer_in (n : Nat) (T' : Str → Option Fn) (kk : CE) (gd md c1 c2 c3 c4 c5 : D) (fd L : List D) (hi : inListD (.tup [.str [119, 104, 105, 99, 104]]) fd = some true) (hc : evE (ctxOf T' G n) kk ⟨[.sh gd, .sh md, .sh (.tup [c1, c2, c3, c4, c5, .tup fd]), .un], []⟩ = some (.ow (.lst L), ⟨[.sh gd, .sh md, .sh (.tup [c1, c2, c3, c4, c5, .tup fd]), .un], []⟩)) (rest : CB) :
    WB (ctxOf T' G n) (.cons (.ite (.op2 .inn (.tup (.cons (.con (.str [119, 104, 105, 99, 104])) .nil)) (.idx (.var 2) (.con (.int 5)))) (.cons (.ret (.tup (.cons (.con (.str [119, 104, 105, 99, 104])) (.cons (.blt .tuple (.cons kk .nil)) .nil)))) .nil) .nil) rest) ⟨[.sh gd, .sh md, .sh (.tup [c1, c2, c3, c4, c5, .tup fd]), .un], []⟩ (Done 3 fun r ss => r = .sh (.tup [.str [119, 104, 105, 99, 104], .tup L]) ∧ ss = [.sh gd, .sh md, .sh (.tup [c1, c2, c3, c4, c5, .tup fd])]) := by
  walk_at "fi"
theorem run_answer_in (n : Nat) (gd : D) (m : Mdl) (mo t y d : Txt) (fs : List Fil) (p : Nat → Bool) (hm : m.many ≤ 100) (hw : fs.any isWhich = true)
    (h : ∀ x < m.many, Fi.run T G n "true_of" [(false, gd), (false, mD m), (false, clD (mo, t, y, d, fs)), (false, .int x)] = some (.sh (.bl (p x)), [.sh gd, .sh (mD m), .sh (clD (mo, t, y, d, fs)), .sh (.int x)])) :
    Fi.run T G (n + 1) "answer_in" [(false, gd), (false, mD m), (false, clD (mo, t, y, d, fs))] = some (.sh (.tup [.str [119, 104, 105, 99, 104], .tup (((List.range m.many).filter p).map fun x : Nat => D.int x)]), [.sh gd, .sh (mD m), .sh (clD (mo, t, y, d, fs))]) :=
  run_eq (fn := f_answer_in) (E0 := ⟨[.sh gd, .sh (mD m), .sh (clD (mo, t, y, d, fs)), .un], []⟩) rfl rfl rfl (last_answer_in n T k1_answer_in gd (mD m) _ _ _ _ _ _ _ ((in_which fs).trans (by rw [hw])) (cmp_answer_in n T gd (clD (mo, t, y, d, fs)) m p hm (io_true_of n) h) _)
/-! ### draws -/
theorem wb_step {C : Fi.Ctx} {s : CS} {r : CB} {E E1 : Fi.Env} {Q : Out → Prop} (h1 : evS C s E = some (.nx E1)) (h2 : WB C r E1 Q) : WB C (.cons s r) E Q := by
  rw [WB_cons]
  exact ⟨_, h1, h2⟩
theorem wb_stepS {C : Fi.Ctx} {s : CS} {r : CB} {E E1 : Fi.Env} {Q : Out → Prop} (h1 : WS C s E fun o => o = .nx E1) (h2 : WB C r E1 Q) : WB C (.cons s r) E Q := by
  obtain ⟨o, h, rfl⟩ := h1
  exact wb_step h h2
theorem nxt_two (ds : List Int) (i : Nat) : nxt ds i 2 = 0 ∨ nxt ds i 2 = 1 := by
  have := nxt_le (ds := ds) (i := i) (m := 2) (by omega)
  omega
theorem nxt_three (ds : List Int) (i : Nat) : nxt ds i 3 = 0 ∨ nxt ds i 3 = 1 ∨ nxt ds i 3 = 2 := by
  have := nxt_le (ds := ds) (i := i) (m := 3) (by omega)
  omega
theorem nxt_four (ds : List Int) (i : Nat) : nxt ds i 4 = 0 ∨ nxt ds i 4 = 1 ∨ nxt ds i 4 = 2 ∨ nxt ds i 4 = 3 := by
  have := nxt_le (ds := ds) (i := i) (m := 4) (by omega)
  omega
theorem run_of_kind (n : Nat) (g : List Rw) (hg : g.length ≤ 1000) (ks : List Txt) : Fi.run T G (n + 1) "_law_of_kind" [(false, gD g), (false, .tup (ks.map .str))] = some (.ow (.lst ((g.filter fun r => decide (r.k ∈ ks)).map fun r => .str r.s)), [.sh (gD g), .sh (.tup (ks.map .str))]) := by
  refine run_eq (fn := f_law_of_kind) (E0 := ⟨[.sh (gD g), .sh (.tup (ks.map .str)), .un], []⟩) rfl rfl rfl ?_
  have hc : evE (ctxOf T G n) k1_law_of_kind ⟨[.sh (gD g), .sh (.tup (ks.map .str)), .un], []⟩ = some (.ow (.lst ((g.filter fun r => decide (r.k ∈ ks)).map fun r => .str r.s)), ⟨[.sh (gD g), .sh (.tup (ks.map .str)), .un], []⟩) := by
    refine cmpV_filter rwD (fun r => D.str r.s) (fun r => decide (r.k ∈ ks)) g (d := gD g) (l := none) (E1 := ⟨[.sh (gD g), .sh (.tup (ks.map .str)), .un], []⟩) rfl rfl rfl rfl (fun r _ => ?_) (by unfold bigLine; omega) rfl
    have h0 : (0 : Int) < (r.more.length : Int) + 1 + 1 := by omega
    have h1 : (1 : Int) < (r.more.length : Int) + 1 + 1 := by omega
    have hi := inList_txt r.k ks
    unfold rwD
    generalize ks.map D.str = K at *
    generalize gD g = gd at *
    generalize T = T' at *
    by_cases h : r.k ∈ ks
    · walk_at "fi"
    · walk_at "fi"
  unfold f_law_of_kind c_law_of_kind
  generalize k1_law_of_kind = kk at *
  generalize ks.map D.str = K at *
  generalize gD g = gd at *
  generalize T = T' at *
  walk_at "fi"
/-! ### the drawn ground -/
def opt {α : Type} (b : Bool) (x : α) : List α := if b = true then [x] else []
def rThing (s : Txt) : Rw := ⟨[116, 104, 105, 110, 103], s, []⟩
def rQual (s : Txt) : Rw := ⟨[113, 117, 97, 108, 105, 116, 121], s, []⟩
def rName (s : Txt) : Rw := ⟨[110, 97, 109, 101], s, []⟩
def rDo (s : Txt) (rs : List Txt) : Rw := ⟨[100, 111, 105, 110, 103], s, [.tup (rs.map .str)]⟩
def fPup : Fil := .thing [100, 111, 103] [111, 110, 101] [115, 111, 109, 101] [[114, 101, 100]] []
def fStone : Fil := .thing [115, 116, 111, 110, 101] [111, 110, 101] [115, 111, 109, 101] [] []
def fWatch : Fil := .thing [100, 111, 103] [111, 110, 101] [115, 111, 109, 101] [] [([87, 72, 79], [109, 111, 114, 101], [110, 111, 119], [121, 101, 115], [115, 101, 101], [.one [115, 101, 108, 102], fStone])]
def rPup : Rw := ⟨[103, 108, 111, 115, 115], [112, 117, 112], [filD fPup]⟩
def rWatch : Rw := ⟨[103, 108, 111, 115, 115], [119, 97, 116, 99, 104, 101, 114], [filD fWatch]⟩
def g1 (t b : Bool) : List Rw := [rThing [100, 111, 103], rThing [115, 116, 111, 110, 101]] ++ opt t (rThing [116, 114, 101, 101]) ++ [rQual [111, 108, 100], rQual [114, 101, 100]] ++ opt b (rQual [98, 105, 103])
def g2 (c : Bool) : List Rw := [rName [97, 110, 97]] ++ opt c (rName [98, 111]) ++ [rDo [115, 108, 101, 101, 112] [[87, 72, 79]], rDo [115, 101, 101] [[87, 72, 79], [87, 72, 65, 84]]]
def gv (v : Bool) : Txt := if v = true then [103, 111] else [103, 105, 118, 101]
def gr (u : Bool) : List Txt := if u = true then [[87, 72, 79], [87, 72, 79, 77]] else [[87, 72, 79], [87, 72, 65, 84], [87, 72, 79, 77]]
def grd (t b c v u p q : Bool) : List Rw := g1 t b ++ g2 c ++ [rDo (gv v) (gr u)] ++ opt p rPup ++ opt q rWatch
theorem dPup : filD fPup = .tup [.str [116, 104, 105, 110, 103], .str [100, 111, 103], .str [111, 110, 101], .str [115, 111, 109, 101], .tup [.str [114, 101, 100]], .tup []] := by
  simp [fPup, filD, mrsD, tThing]
theorem dWatch : filD fWatch = .tup [.str [116, 104, 105, 110, 103], .str [100, 111, 103], .str [111, 110, 101], .str [115, 111, 109, 101], .tup [], .tup [.tup [.str [87, 72, 79], .tup [.str [99, 108, 97, 117, 115, 101], .str [109, 111, 114, 101], .str [110, 111, 119], .str [121, 101, 115], .str [115, 101, 101], .tup [.tup [.str [115, 101, 108, 102]], .tup [.str [116, 104, 105, 110, 103], .str [115, 116, 111, 110, 101], .str [111, 110, 101], .str [115, 111, 109, 101], .tup [], .tup []]]]]]] := by
  simp [fWatch, fStone, filD, mrsD, mrD, filsD, tThing, tClause]
theorem run_ground (n : Nat) (ds : List Int) (i : Nat) {rest : List (DKey × D)} (hr : OkRest rest) :
    ∃ (t b c v u p q : Bool) (i' : Nat), Fi.run T G (n + 2) "_law_ground" [(true, Wd ds i rest)] = some (.sh (gD (grd t b c v u p q)), [.ow (Wd ds i' rest)]) := by
  have hN : ∀ (i : Nat) (m : Int), 0 < m → Fi.run T G (n + 1) "_law_next" [(true, Wd ds i rest), (false, .int m)] = some (.sh (.int (nxt ds i m)), [.ow (Wd ds (i + 1) rest), .sh (.int m)]) := fun i m hm => run_next rfl n ds i hr m hm
  have i1 := io_law_next
  refine ⟨decide (nxt ds i 2 = 1), decide (nxt ds (i + 1) 2 = 1), decide (nxt ds (i + 2) 2 = 1), decide (nxt ds (i + 3) 2 = 1), decide (nxt ds (i + 4) 2 = 1), decide (nxt ds (i + 5) 2 = 0), decide (nxt ds (i + 6) 3 = 0), i + 7, ?_⟩
  refine run_eq (fn := f_law_ground) (E0 := ⟨[.ow (Wd ds i rest), .un, .un], [0]⟩) rfl rfl rfl ?_
  show WB _ c_law_ground _ (Done 1 _)
  unfold c_law_ground
  generalize T = T' at *
  refine wb_step (E1 := ⟨[.ow (Wd ds (i + 2) rest), .ow (.lst ((g1 (decide (nxt ds i 2 = 1)) (decide (nxt ds (i + 1) 2 = 1))).map rwD)), .un], [0]⟩) ?_ ?_
  · have c0 : ∀ x : D, cut [x] none (some 0) = [] := fun _ => rfl
    have c1 : ∀ x : D, cut [x] none (some 1) = [x] := fun _ => rfl
    rcases nxt_two ds i with h1 | h1 <;> rcases nxt_two ds (i + 1) with h2 | h2 <;> (rw [h1, h2]; unfold g1 opt rThing rQual rwD; walk_at "fi")
  refine wb_step (E1 := ⟨[.ow (Wd ds (i + 3) rest), .ow (.lst ((g1 (decide (nxt ds i 2 = 1)) (decide (nxt ds (i + 1) 2 = 1)) ++ g2 (decide (nxt ds (i + 2) 2 = 1))).map rwD)), .un], [0]⟩) ?_ ?_
  · generalize hL : g1 (decide (nxt ds i 2 = 1)) (decide (nxt ds (i + 1) 2 = 1)) = L
    have c0 : ∀ x y : D, cut [x, y] none (some 1) = [x] := fun _ _ => rfl
    have c1 : ∀ x y : D, cut [x, y] none (some 2) = [x, y] := fun _ _ => rfl
    have hl : L.length ≤ 6 := by rw [← hL]; unfold g1 opt; split <;> split <;> simp
    have l1 : L.length + 1 ≤ 16777216 := by omega
    have l2 : L.length + 2 ≤ 16777216 := by omega
    have l3 : L.length + 1 + 2 ≤ 16777216 := by omega
    have l4 : L.length + 2 + 2 ≤ 16777216 := by omega
    clear hL hl
    rcases nxt_two ds (i + 2) with h1 | h1 <;> (rw [h1]; unfold g2 opt rName rDo; walk_at "fi"; try (unfold rwD; simp))
  generalize hL : g1 (decide (nxt ds i 2 = 1)) (decide (nxt ds (i + 1) 2 = 1)) ++ g2 (decide (nxt ds (i + 2) 2 = 1)) = L
  have hl : L.length ≤ 20 := by rw [← hL]; unfold g1 g2 opt; split <;> split <;> split <;> simp
  have l1 : L.length < 16777216 := by omega
  refine wb_step (E1 := ⟨[.ow (Wd ds (i + 5) rest), .ow (.lst ((L ++ [rDo (gv (decide (nxt ds (i + 3) 2 = 1))) (gr (decide (nxt ds (i + 4) 2 = 1)))]).map rwD)), .un], [0]⟩) ?_ ?_
  · clear hL hl
    rcases nxt_two ds (i + 3) with h1 | h1 <;> rcases nxt_two ds (i + 4) with h2 | h2 <;> (rw [h1, h2]; unfold rDo gv gr; walk_at "fi"; try (unfold rwD; simp))
  generalize hL2 : L ++ [rDo (gv (decide (nxt ds (i + 3) 2 = 1))) (gr (decide (nxt ds (i + 4) 2 = 1)))] = L2
  have hl2 : L2.length ≤ 21 := by rw [← hL2]; simp; omega
  have l2 : L2.length < 16777216 := by omega
  refine wb_stepS (E1 := ⟨[.ow (Wd ds (i + 6) rest), .ow (.lst ((L2 ++ opt (decide (nxt ds (i + 5) 2 = 0)) rPup).map rwD)), .un], [0]⟩) ?_ ?_
  · have he := eqv_int
    clear hL hl hL2 hl2
    rcases nxt_two ds (i + 5) with h1 | h1 <;> (rw [h1]; unfold opt rPup; rw [dPup]; walk_at "fi"; try (unfold rwD; simp))
  generalize hL3 : L2 ++ opt (decide (nxt ds (i + 5) 2 = 0)) rPup = L3
  have hl3 : L3.length ≤ 22 := by rw [← hL3]; unfold opt; split <;> simp <;> omega
  have l3 : L3.length < 16777216 := by omega
  have hG : grd (decide (nxt ds i 2 = 1)) (decide (nxt ds (i + 1) 2 = 1)) (decide (nxt ds (i + 2) 2 = 1)) (decide (nxt ds (i + 3) 2 = 1)) (decide (nxt ds (i + 4) 2 = 1)) (decide (nxt ds (i + 5) 2 = 0)) (decide (nxt ds (i + 6) 3 = 0)) = L3 ++ opt (decide (nxt ds (i + 6) 3 = 0)) rWatch := by
    unfold grd; rw [hL, hL2, hL3]
  rw [hG]
  have he := eqv_int
  clear hL hl hL2 hl2 hL3 hl3 hG l1 l2
  rcases nxt_three ds (i + 6) with h1 | h1 | h1
  · rw [h1]
    unfold opt rWatch gD
    rw [dWatch]
    walk_at "fi"
    try (unfold rwD; simp)
  · rw [h1]; unfold opt gD; walk_at "fi"
  · rw [h1]; unfold opt gD; walk_at "fi"
end K56
end

section
set_option maxRecDepth 100000
set_option maxHeartbeats 4000000
namespace K56
open PySem L2 Fi
local macro_rules | `(tactic| walk_at "fi") => `(tactic| simp [WB_cons, WB_nil, WS_asg, WS_par, WS_aug, WS_augIx, WS_setIx, WS_ex, WS_ret, WS_retN, WS_brk, WS_cnt, WS_pas, WS_ite, iteQ_some, iteT_t, iteT_f, cont_nx, cont_rt, cont_bk, cont_ct, Lp_nx, Lp_ct, Lp_rt, Lp_bk, Lw_nx, Lw_ct, Lw_rt, Lw_bk, WT, Done_rt, Done_nx, giveD_sh, giveD_ow, giveD_pk, finsD, rg0, rg1, rg2, rg3, rg4, rg5, rg6, evS, evE, evEs, evO, evT, evI, evFs, Env.tkf, putp, Env.get, Env.put, Env.vw, Env.rd, Env.tk, Env.tks, Env.free, Rs.fz, op2D, addD, subD, mulD, fdivD, modD, powD, cmpA, ordD, nlk_un, nlk_sh, nlk_ow, nlk_lk, isD, iopD, iaddD, inopD, iaddI, op1D, PR.rs, D.truth, D.len, ixD, ix, partD, cutD, revD, lenB, absB, intB, tupleB, listB, anyB, allB, isinstB, bltD, getB, mthD, mthTy, appendB, extendB, popB, mutD, mutTy, setD, D.key, DKey.ok, tyNames, D.tyName, tySub, lock, unlock, lkFree, seqD, puts, bindT, Tg.slots, wipeE, back, argsOf, lent, lentOk, Ar.pass, behind, dk_ss, dk_ii, dk_si, dk_is, bigLine, ownOk, mapOut, turnF, dictAt, lockVar, hide, unhide, bls, inD, D.isNon, List.lookup, ctx_call, io_row_of, io_kind_of, io_roles_of, io_gloss_of, io_senses_of_kind, io_is_such, io_such_ones, io_individual_of, io_is_reached, io_goes_on, io_true_of, io_true_in, io_answer_in, io_is_number, io_is_ascending, io_is_individual, io_is_pair, io_are_pairs, io_is_fact, io_are_facts, io_are_all_names, io_is_model, io_law_draws, io_law_next, io_law_pick, io_law_same, io_law_ground, io_law_of_kind, io_law_text_of, io_law_more_text, io_law_thing, io_law_more, io_law_filler, io_law_meaning, io_law_model, io_law_wider, io_law, *])
local macro_rules | `(tactic| walk_at "fs") => `(tactic| simp [WB_cons, WB_nil, WS_asg, WS_par, WS_aug, WS_augIx, WS_setIx, WS_ex, WS_ret, WS_retN, WS_brk, WS_cnt, WS_pas, WS_ite, iteQ_some, iteT_t, iteT_f, cont_nx, cont_rt, cont_bk, cont_ct, Lp_nx, Lp_ct, Lp_rt, Lp_bk, Lw_nx, Lw_ct, Lw_rt, Lw_bk, WT, Done_rt, Done_nx, giveD_sh, giveD_ow, giveD_pk, finsD, rg0, rg1, rg2, rg3, rg4, rg5, rg6, evS, evE, evEs, evO, evT, evI, evFs, Env.tkf, putp, Env.get, Env.put, Env.vw, Env.rd, Env.tk, Env.tks, Env.free, Rs.fz, op2D, addD, subD, mulD, fdivD, modD, powD, cmpA, ordD, nlk_un, nlk_sh, nlk_ow, nlk_lk, isD, iopD, iaddD, inopD, iaddI, op1D, PR.rs, D.truth, D.len, ixD, ix, partD, cutD, revD, lenB, absB, intB, tupleB, listB, anyB, allB, isinstB, bltD, getB, mthD, mthTy, appendB, extendB, popB, mutD, mutTy, tyNames, D.tyName, tySub, lock, unlock, lkFree, seqD, puts, bindT, Tg.slots, wipeE, back, argsOf, lent, lentOk, Ar.pass, behind, dk_ss, dk_ii, dk_si, dk_is, bigLine, ownOk, mapOut, turnF, dictAt, lockVar, hide, unhide, bls, inD, D.isNon, List.lookup, ctx_call, io_row_of, io_kind_of, io_roles_of, io_gloss_of, io_senses_of_kind, io_is_such, io_such_ones, io_individual_of, io_is_reached, io_goes_on, io_true_of, io_true_in, io_answer_in, io_is_number, io_is_ascending, io_is_individual, io_is_pair, io_are_pairs, io_is_fact, io_are_facts, io_are_all_names, io_is_model, io_law_draws, io_law_next, io_law_pick, io_law_same, io_law_ground, io_law_of_kind, io_law_text_of, io_law_more_text, io_law_thing, io_law_more, io_law_filler, io_law_meaning, io_law_model, io_law_wider, io_law, *])
/-! ### texts of fillers and mores -/
mutual
def txF : Fil → Txt
  | .one w => if w = [115, 112, 101, 97, 107, 101, 114] then [73] else if w = [104, 101, 97, 114, 101, 114] then [121, 111, 117] else if w = [119, 104, 105, 99, 104] then [119, 104, 105, 99, 104] else [115, 101, 108, 102]
  | .name s => [64] ++ s
  | .thing s num fix qs ms => [40] ++ joinT [32] (fix :: num :: s :: qs) ++ joinT [] (txMs ms) ++ [41]
def txMs : List (Txt × Txt × Txt × Txt × Txt × List Fil) → List Txt
  | [] => []
  | m :: ms => ([32, 124, 32] ++ txM m) :: txMs ms
def txM : Txt × Txt × Txt × Txt × Txt × List Fil → Txt
  | (r, _, t, y, d, fs) => r ++ [32] ++ joinT [32] (t :: y :: d :: txFs fs)
def txFs : List Fil → List Txt
  | [] => []
  | f :: fs => txF f :: txFs fs
end
theorem txMs_map : ∀ ms, txMs ms = ms.map fun m => [32, 124, 32] ++ txM m
  | [] => by unfold txMs; rfl
  | m :: ms => by unfold txMs; rw [txMs_map ms]; rfl
theorem txFs_map : ∀ fs, txFs fs = fs.map txF
  | [] => by unfold txFs; rfl
  | m :: ms => by unfold txFs; rw [txFs_map ms]; rfl
/-- a filler of such a depth, its texts short -/
def fine : Nat → Fil → Prop
  | _, .one w => w = [115, 112, 101, 97, 107, 101, 114] ∨ w = [104, 101, 97, 114, 101, 114] ∨ w = [119, 104, 105, 99, 104] ∨ w = [115, 101, 108, 102]
  | _, .name s => s.length ≤ 100
  | 0, .thing s num fix qs ms => s.length ≤ 100 ∧ num.length ≤ 100 ∧ fix.length ≤ 100 ∧ qs.length ≤ 20 ∧ (∀ q ∈ qs, q.length ≤ 100) ∧ ms = []
  | r + 1, .thing s num fix qs ms => s.length ≤ 100 ∧ num.length ≤ 100 ∧ fix.length ≤ 100 ∧ qs.length ≤ 20 ∧ (∀ q ∈ qs, q.length ≤ 100) ∧ ms.length ≤ 4 ∧
    ∀ mr ∈ ms, mr.1.length ≤ 100 ∧ mr.2.2.1.length ≤ 100 ∧ mr.2.2.2.1.length ≤ 100 ∧ mr.2.2.2.2.1.length ≤ 100 ∧ mr.2.2.2.2.2.length ≤ 3 ∧ ∀ f ∈ mr.2.2.2.2.2, fine r f
def bnd : Nat → Nat
  | 0 => 4000
  | r + 1 => 12 * bnd r + 6000
theorem sum_le {ts : List Txt} {k : Nat} (h : ∀ t ∈ ts, t.length ≤ k) : (ts.map List.length).sum ≤ ts.length * k := by
  induction ts with
  | nil => simp
  | cons t ts ih =>
    have := h t (by simp)
    have := ih fun y hy => h y (by simp [hy])
    rw [List.map_cons, List.sum_cons, List.length_cons, Nat.add_mul]
    omega
theorem bnd_big : ∀ r, 4000 ≤ bnd r
  | 0 => by simp [bnd]
  | r + 1 => by have := bnd_big r; simp only [bnd]; omega
theorem txt_one (n : Nat) (w : Txt) (h : w = [115, 112, 101, 97, 107, 101, 114] ∨ w = [104, 101, 97, 114, 101, 114] ∨ w = [119, 104, 105, 99, 104] ∨ w = [115, 101, 108, 102]) : Fi.run T G (n + 1) "_law_text_of" [(false, filD (.one w))] = some (.sh (.str (txF (.one w))), [.sh (filD (.one w))]) := by
  unfold filD txF
  refine run_eq (fn := f_law_text_of) (E0 := ⟨[.sh (.tup [.str w]), .un, .un], []⟩) rfl rfl rfl ?_
  have hk : ∀ a b c d : D, kput (.s [115, 101, 108, 102]) d (kput (.s [119, 104, 105, 99, 104]) c (kput (.s [104, 101, 97, 114, 101, 114]) b (kput (.s [115, 112, 101, 97, 107, 101, 114]) a []))) = [(.s [115, 112, 101, 97, 107, 101, 114], a), (.s [104, 101, 97, 114, 101, 114], b), (.s [119, 104, 105, 99, 104], c), (.s [115, 101, 108, 102], d)] := fun _ _ _ _ => rfl
  have k1 : ∀ a b c d : D, kget (.s [115, 112, 101, 97, 107, 101, 114]) [(.s [115, 112, 101, 97, 107, 101, 114], a), (.s [104, 101, 97, 114, 101, 114], b), (.s [119, 104, 105, 99, 104], c), (.s [115, 101, 108, 102], d)] = some a := fun _ _ _ _ => rfl
  have k2 : ∀ a b c d : D, kget (.s [104, 101, 97, 114, 101, 114]) [(.s [115, 112, 101, 97, 107, 101, 114], a), (.s [104, 101, 97, 114, 101, 114], b), (.s [119, 104, 105, 99, 104], c), (.s [115, 101, 108, 102], d)] = some b := fun _ _ _ _ => rfl
  have k3 : ∀ a b c d : D, kget (.s [119, 104, 105, 99, 104]) [(.s [115, 112, 101, 97, 107, 101, 114], a), (.s [104, 101, 97, 114, 101, 114], b), (.s [119, 104, 105, 99, 104], c), (.s [115, 101, 108, 102], d)] = some c := fun _ _ _ _ => rfl
  have k4 : ∀ a b c d : D, kget (.s [115, 101, 108, 102]) [(.s [115, 112, 101, 97, 107, 101, 114], a), (.s [104, 101, 97, 114, 101, 114], b), (.s [119, 104, 105, 99, 104], c), (.s [115, 101, 108, 102], d)] = some d := fun _ _ _ _ => rfl
  unfold f_law_text_of c_law_text_of
  generalize k1_law_text_of = kk
  generalize T = T' at *
  rcases h with rfl | rfl | rfl | rfl
  · walk_at "fi"
  · walk_at "fi"
  · walk_at "fi"
  · walk_at "fi"
theorem txt_name (n : Nat) (s : Txt) (h : s.length ≤ 100) : Fi.run T G (n + 1) "_law_text_of" [(false, filD (.name s))] = some (.sh (.str (txF (.name s))), [.sh (filD (.name s))]) := by
  unfold filD txF tName
  refine run_eq (fn := f_law_text_of) (E0 := ⟨[.sh (.tup [.str [110, 97, 109, 101], .str s]), .un, .un], []⟩) rfl rfl rfl ?_
  have hl : s.length + 1 ≤ 16777216 := by omega
  have hl2 : 1 + s.length ≤ 16777216 := by omega
  unfold f_law_text_of c_law_text_of
  generalize k1_law_text_of = kk
  generalize T = T' at *
  walk_at "fi"
theorem cmp_txt (n : Nat) (T' : Str → Option Fn) (i1 : (ctxOf T' G n).io "_law_more_text" = [false]) (s num fix q : D) (ms : List Mr) (hm : ms.length ≤ 1000) (rw1 : Sl)
    (h : ∀ mr ∈ ms, Fi.run T' G n "_law_more_text" [(false, mrD' mr)] = some (.sh (.str (txM mr)), [.sh (mrD' mr)]) ∧ (txM mr).length + 3 ≤ 16777216) :
    evE (ctxOf T' G n) k1_law_text_of ⟨[.sh (.tup [.str [116, 104, 105, 110, 103], s, num, fix, q, .tup (ms.map mrD')]), rw1, .un], []⟩ = some (.ow (.lst (ms.map fun mr => .str ([32, 124, 32] ++ txM mr))), ⟨[.sh (.tup [.str [116, 104, 105, 110, 103], s, num, fix, q, .tup (ms.map mrD')]), rw1, .un], []⟩) := by
  refine cmp_map mrD' (fun mr => .str ([32, 124, 32] ++ txM mr)) ms (l := none) (E1 := ⟨[.sh (.tup [.str [116, 104, 105, 110, 103], s, num, fix, q, .tup (ms.map mrD')]), rw1, .un], []⟩) ?_ rfl (fun mr hk => ?_) (by unfold bigLine; omega) rfl
  · clear h
    walk_at "fi"
  · obtain ⟨h1, h2⟩ := h mr hk
    have h3 : 3 + (txM mr).length ≤ 16777216 := by omega
    clear h
    generalize txM mr = t at *
    generalize mrD' mr = md at *
    generalize ms.map mrD' = M at *
    walk_at "fi"
theorem txt_thing (n : Nat) (s num fix : Txt) (qs : List Txt) (ms : List Mr) (b : Nat) (hb : b ≤ 1000000) (h1 : s.length ≤ 100) (h2 : num.length ≤ 100) (h3 : fix.length ≤ 100) (h4 : qs.length ≤ 20) (h5 : ∀ q ∈ qs, q.length ≤ 100) (h6 : ms.length ≤ 4)
    (h : ∀ mr ∈ ms, Fi.run T G n "_law_more_text" [(false, mrD' mr)] = some (.sh (.str (txM mr)), [.sh (mrD' mr)]) ∧ (txM mr).length ≤ b) :
    Fi.run T G (n + 1) "_law_text_of" [(false, filD (.thing s num fix qs ms))] = some (.sh (.str (txF (.thing s num fix qs ms))), [.sh (filD (.thing s num fix qs ms))]) ∧ (txF (.thing s num fix qs ms)).length ≤ 3000 + 4 * (b + 3) := by
  have l1 := joinT_len [32] (fix :: num :: s :: qs)
  have l2 := joinT_len [] (txMs ms)
  have s1 := sum_le h5
  have s2 : ((txMs ms).map List.length).sum ≤ (txMs ms).length * (b + 3) := by
    refine sum_le fun t ht => ?_
    rw [txMs_map, List.mem_map] at ht
    obtain ⟨mr, hm, rfl⟩ := ht
    have := (h mr hm).2
    simp
    omega
  have e2 : (txMs ms).length = ms.length := by rw [txMs_map, List.length_map]
  rw [e2] at l2 s2
  have s3 : ms.length * (b + 3) ≤ 4 * (b + 3) := Nat.mul_le_mul_right _ h6
  have s4 : qs.length * 100 ≤ 2000 := by omega
  simp only [List.map_cons, List.sum_cons, List.length_cons, List.length_nil, Nat.mul_zero, Nat.add_zero, Nat.mul_one, Nat.zero_add] at l1 l2
  have hlen : (txF (.thing s num fix qs ms)).length ≤ 3000 + 4 * (b + 3) := by
    unfold txF
    simp only [List.length_append, List.length_cons, List.length_nil]
    omega
  refine ⟨?_, hlen⟩
  have hc := cmp_txt n T (io_law_more_text n) (.str s) (.str num) (.str fix) (.tup (qs.map .str)) ms (by omega) (.ow (.lst (.str fix :: .str num :: .str s :: qs.map .str))) fun mr hm => ⟨(h mr hm).1, by have := (h mr hm).2; omega⟩
  have j1 : joinB (.str [32]) [.lst (.str fix :: .str num :: .str s :: qs.map .str)] = some (.sc (.str (joinT [32] (fix :: num :: s :: qs)))) := by
    refine join_ok [32] (fix :: num :: s :: qs) ?_
    simp only [List.map_cons, List.sum_cons, List.length_cons, List.length_nil]
    omega
  have j2 : joinB (.str []) [.lst (ms.map fun mr => .str ([32, 124, 32] ++ txM mr))] = some (.sc (.str (joinT [] (txMs ms)))) := by
    have := join_ok [] (txMs ms) (by rw [e2]; simp only [List.length_nil, Nat.mul_zero]; omega)
    rw [txMs_map, List.map_map] at this
    rw [txMs_map]
    exact this
  rw [thing_D]
  unfold txF
  unfold tThing
  refine run_eq (fn := f_law_text_of) (E0 := ⟨[.sh (.tup [.str [116, 104, 105, 110, 103], .str s, .str num, .str fix, .tup (qs.map .str), .tup (ms.map mrD')]), .un, .un], []⟩) rfl rfl rfl ?_
  have q1 : qs.length + 3 ≤ 16777216 := by omega
  have q2 : qs.length ≤ 16777216 := by omega
  have q3 : qs.length + 1 + 1 + 1 ≤ 16777216 := by omega
  have q4 : 3 + qs.length ≤ 16777216 := by omega
  clear h
  unfold f_law_text_of c_law_text_of
  generalize hJ1 : joinT [32] (fix :: num :: s :: qs) = J1 at *
  generalize hJ2 : joinT [] (txMs ms) = J2 at *
  generalize (ms.map fun mr => D.str ([32, 124, 32] ++ txM mr)) = M2 at *
  generalize ms.map mrD' = M at *
  generalize hQ : qs.map D.str = Q at *
  have q5 : Q.length ≤ 20 := by rw [← hQ]; simpa using h4
  have q6 : 3 + Q.length ≤ 16777216 := by omega
  have p1 : 1 + J1.length ≤ 16777216 := by omega
  have p2 : J1.length + 1 + J2.length ≤ 16777216 := by omega
  have p3 : J1.length + 1 ≤ 16777216 := by omega
  have p4 : J1.length + 1 + J2.length + 1 ≤ 16777216 := by omega
  have p5 : 1 + (J1.length + J2.length) ≤ 16777216 := by omega
  have p6 : J1.length + J2.length + 1 ≤ 16777216 := by omega
  have p7 : J1.length + J2.length + 1 + 1 ≤ 16777216 := by omega
  have p8 : J1.length + (J2.length + 1) + 1 ≤ 16777216 := by omega
  clear hJ1 hJ2 hQ l1 l2 hlen e2 s1 s2 s3 s4 h5
  generalize k1_law_text_of = kk at *
  generalize T = T' at *
  walk_at "fi"
theorem cmp_mtx (n : Nat) (T' : Str → Option Fn) (i1 : (ctxOf T' G n).io "_law_text_of" = [false]) (r mo t y d : D) (fs : List Fil) (hm : fs.length ≤ 1000)
    (h : ∀ f ∈ fs, Fi.run T' G n "_law_text_of" [(false, filD f)] = some (.sh (.str (txF f)), [.sh (filD f)])) :
    evE (ctxOf T' G n) k1_law_more_text ⟨[.sh (.tup [r, .tup [.str [99, 108, 97, 117, 115, 101], mo, t, y, d, .tup (fs.map filD)]]), .un], []⟩ = some (.ow (.lst (fs.map fun f => .str (txF f))), ⟨[.sh (.tup [r, .tup [.str [99, 108, 97, 117, 115, 101], mo, t, y, d, .tup (fs.map filD)]]), .un], []⟩) := by
  refine cmp_map filD (fun f => .str (txF f)) fs (l := none) (E1 := ⟨[.sh (.tup [r, .tup [.str [99, 108, 97, 117, 115, 101], mo, t, y, d, .tup (fs.map filD)]]), .un], []⟩) ?_ rfl (fun f hk => ?_) (by unfold bigLine; omega) rfl
  · clear h
    walk_at "fi"
  · have h1 := h f hk
    clear h
    generalize txF f = t at *
    generalize filD f = md at *
    generalize fs.map filD = M at *
    walk_at "fi"
theorem txt_more (n : Nat) (r mo t y d : Txt) (fs : List Fil) (b : Nat) (hb : b ≤ 1000000) (h1 : r.length ≤ 100) (h2 : t.length ≤ 100) (h3 : y.length ≤ 100) (h4 : d.length ≤ 100) (h5 : fs.length ≤ 3)
    (h : ∀ f ∈ fs, Fi.run T G n "_law_text_of" [(false, filD f)] = some (.sh (.str (txF f)), [.sh (filD f)]) ∧ (txF f).length ≤ b) :
    Fi.run T G (n + 1) "_law_more_text" [(false, mrD' (r, mo, t, y, d, fs))] = some (.sh (.str (txM (r, mo, t, y, d, fs))), [.sh (mrD' (r, mo, t, y, d, fs))]) ∧ (txM (r, mo, t, y, d, fs)).length ≤ 500 + 3 * (b + 1) := by
  have l1 := joinT_len [32] (t :: y :: d :: txFs fs)
  have e2 : (txFs fs).length = fs.length := by rw [txFs_map, List.length_map]
  have s2 : ((txFs fs).map List.length).sum ≤ (txFs fs).length * b := by
    refine sum_le fun t ht => ?_
    rw [txFs_map, List.mem_map] at ht
    obtain ⟨f, hm, rfl⟩ := ht
    exact (h f hm).2
  rw [e2] at s2
  have s3 : fs.length * b ≤ 3 * b := Nat.mul_le_mul_right _ h5
  simp only [List.map_cons, List.sum_cons, List.length_cons, List.length_nil, Nat.mul_zero, Nat.add_zero, Nat.mul_one, Nat.zero_add] at l1
  have hlen : (txM (r, mo, t, y, d, fs)).length ≤ 500 + 3 * (b + 1) := by
    unfold txM
    simp only [List.length_append, List.length_cons, List.length_nil]
    omega
  refine ⟨?_, hlen⟩
  have hc := cmp_mtx n T (io_law_text_of n) (.str r) (.str mo) (.str t) (.str y) (.str d) fs (by omega) fun f hf => (h f hf).1
  have j1 : joinB (.str [32]) [.lst (.str t :: .str y :: .str d :: fs.map fun f => .str (txF f))] = some (.sc (.str (joinT [32] (t :: y :: d :: txFs fs)))) := by
    have := join_ok [32] (t :: y :: d :: txFs fs) (by simp only [List.map_cons, List.sum_cons, List.length_cons, List.length_nil]; omega)
    rw [txFs_map] at this ⊢
    simp only [List.map_cons, List.map_map] at this
    exact this
  unfold mrD' txM
  simp only [clD_mk]
  unfold tClause
  refine run_eq (fn := f_law_more_text) (E0 := ⟨[.sh (.tup [.str r, .tup [.str [99, 108, 97, 117, 115, 101], .str mo, .str t, .str y, .str d, .tup (fs.map filD)]]), .un], []⟩) rfl rfl rfl ?_
  have hcut : ∀ a b c d e f : D, cut [a, b, c, d, e, f] (some 2) (some 5) = [c, d, e] := fun _ _ _ _ _ _ => rfl
  clear h
  generalize hJ1 : joinT [32] (t :: y :: d :: txFs fs) = J1 at *
  generalize hM2 : (fs.map fun f => D.str (txF f)) = M2 at *
  have m1 : M2.length = fs.length := by rw [← hM2]; simp
  have m2 : 3 + M2.length ≤ 16777216 := by omega
  have m3 : M2.length + 3 ≤ 16777216 := by omega
  have m4 : M2.length + 1 + 1 + 1 ≤ 16777216 := by omega
  have p1 : r.length + 1 + J1.length ≤ 16777216 := by omega
  have p2 : r.length + 1 ≤ 16777216 := by omega
  have p3 : r.length + (J1.length + 1) ≤ 16777216 := by omega
  have p4 : 1 + J1.length ≤ 16777216 := by omega
  clear hJ1 hM2 l1 hlen e2 s2 s3 m1
  generalize fs.map filD = M at *
  unfold f_law_more_text c_law_more_text
  generalize k1_law_more_text = kk at *
  generalize T = T' at *
  walk_at "fi"
/-- texts of fillers up to a depth -/
theorem run_text : ∀ (r : Nat), r ≤ 2 → ∀ f, fine r f → ∀ n, 2 * r + 1 ≤ n → Fi.run T G n "_law_text_of" [(false, filD f)] = some (.sh (.str (txF f)), [.sh (filD f)]) ∧ (txF f).length ≤ bnd r
  | r, hr, .one w, h, n, hn => by
    obtain ⟨k, rfl⟩ : ∃ k, n = k + 1 := ⟨n - 1, by omega⟩
    have h : w = [115, 112, 101, 97, 107, 101, 114] ∨ w = [104, 101, 97, 114, 101, 114] ∨ w = [119, 104, 105, 99, 104] ∨ w = [115, 101, 108, 102] := by cases r <;> exact h
    refine ⟨txt_one k w h, ?_⟩
    have := bnd_big r
    unfold txF
    rcases h with rfl | rfl | rfl | rfl <;> simp <;> omega
  | r, hr, .name s, h, n, hn => by
    obtain ⟨k, rfl⟩ : ∃ k, n = k + 1 := ⟨n - 1, by omega⟩
    have h : s.length ≤ 100 := by cases r <;> exact h
    refine ⟨txt_name k s h, ?_⟩
    have := bnd_big r
    unfold txF
    simp
    omega
  | 0, hr, .thing s num fix qs ms, h, n, hn => by
    obtain ⟨k, rfl⟩ : ∃ k, n = k + 1 := ⟨n - 1, by omega⟩
    obtain ⟨h1, h2, h3, h4, h5, rfl⟩ := h
    have := txt_thing k s num fix qs [] 0 (by omega) h1 h2 h3 h4 h5 (by simp) (by simp)
    exact ⟨this.1, by have := this.2; simp only [bnd]; omega⟩
  | r + 1, hr, .thing s num fix qs ms, h, n, hn => by
    obtain ⟨k, rfl⟩ : ∃ k, n = k + 2 := ⟨n - 2, by omega⟩
    obtain ⟨h1, h2, h3, h4, h5, h6, h7⟩ := h
    have hb : bnd r ≤ 100000 := by
      have : r = 0 ∨ r = 1 := by omega
      rcases this with rfl | rfl <;> simp [bnd]
    have := txt_thing (k + 1) s num fix qs ms (500 + 3 * (bnd r + 1)) (by omega) h1 h2 h3 h4 h5 h6 fun mr hm => by
      obtain ⟨a1, a2, a3, a4, a5, a6⟩ := h7 mr hm
      obtain ⟨rr, mo, t, y, d, fs⟩ := mr
      exact txt_more k rr mo t y d fs (bnd r) (by omega) a1 a2 a3 a4 a5 fun f hf => run_text r (by omega) f (a6 f hf) k (by omega)
    exact ⟨this.1, by have := this.2; simp only [bnd]; omega⟩
end K56
end

section
set_option maxRecDepth 100000
set_option maxHeartbeats 4000000
namespace K56
open PySem L2 Fi
local macro_rules | `(tactic| walk_at "fi") => `(tactic| simp [WB_cons, WB_nil, WS_asg, WS_par, WS_aug, WS_augIx, WS_setIx, WS_ex, WS_ret, WS_retN, WS_brk, WS_cnt, WS_pas, WS_ite, iteQ_some, iteT_t, iteT_f, cont_nx, cont_rt, cont_bk, cont_ct, Lp_nx, Lp_ct, Lp_rt, Lp_bk, Lw_nx, Lw_ct, Lw_rt, Lw_bk, WT, Done_rt, Done_nx, giveD_sh, giveD_ow, giveD_pk, finsD, rg0, rg1, rg2, rg3, rg4, rg5, rg6, evS, evE, evEs, evO, evT, evI, evFs, Env.tkf, putp, Env.get, Env.put, Env.vw, Env.rd, Env.tk, Env.tks, Env.free, Rs.fz, op2D, addD, subD, mulD, fdivD, modD, powD, cmpA, ordD, nlk_un, nlk_sh, nlk_ow, nlk_lk, isD, iopD, iaddD, inopD, iaddI, op1D, PR.rs, D.truth, D.len, ixD, ix, partD, cutD, revD, lenB, absB, intB, tupleB, listB, anyB, allB, isinstB, bltD, getB, mthD, mthTy, appendB, extendB, popB, mutD, mutTy, setD, D.key, DKey.ok, tyNames, D.tyName, tySub, lock, unlock, lkFree, seqD, puts, bindT, Tg.slots, wipeE, back, argsOf, lent, lentOk, Ar.pass, behind, dk_ss, dk_ii, dk_si, dk_is, bigLine, ownOk, mapOut, turnF, dictAt, lockVar, hide, unhide, bls, inD, D.isNon, List.lookup, ctx_call, io_row_of, io_kind_of, io_roles_of, io_gloss_of, io_senses_of_kind, io_is_such, io_such_ones, io_individual_of, io_is_reached, io_goes_on, io_true_of, io_true_in, io_answer_in, io_is_number, io_is_ascending, io_is_individual, io_is_pair, io_are_pairs, io_is_fact, io_are_facts, io_are_all_names, io_is_model, io_law_draws, io_law_next, io_law_pick, io_law_same, io_law_ground, io_law_of_kind, io_law_text_of, io_law_more_text, io_law_thing, io_law_more, io_law_filler, io_law_meaning, io_law_model, io_law_wider, io_law, *])
local macro_rules | `(tactic| walk_at "fs") => `(tactic| simp [WB_cons, WB_nil, WS_asg, WS_par, WS_aug, WS_augIx, WS_setIx, WS_ex, WS_ret, WS_retN, WS_brk, WS_cnt, WS_pas, WS_ite, iteQ_some, iteT_t, iteT_f, cont_nx, cont_rt, cont_bk, cont_ct, Lp_nx, Lp_ct, Lp_rt, Lp_bk, Lw_nx, Lw_ct, Lw_rt, Lw_bk, WT, Done_rt, Done_nx, giveD_sh, giveD_ow, giveD_pk, finsD, rg0, rg1, rg2, rg3, rg4, rg5, rg6, evS, evE, evEs, evO, evT, evI, evFs, Env.tkf, putp, Env.get, Env.put, Env.vw, Env.rd, Env.tk, Env.tks, Env.free, Rs.fz, op2D, addD, subD, mulD, fdivD, modD, powD, cmpA, ordD, nlk_un, nlk_sh, nlk_ow, nlk_lk, isD, iopD, iaddD, inopD, iaddI, op1D, PR.rs, D.truth, D.len, ixD, ix, partD, cutD, revD, lenB, absB, intB, tupleB, listB, anyB, allB, isinstB, bltD, getB, mthD, mthTy, appendB, extendB, popB, mutD, mutTy, tyNames, D.tyName, tySub, lock, unlock, lkFree, seqD, puts, bindT, Tg.slots, wipeE, back, argsOf, lent, lentOk, Ar.pass, behind, dk_ss, dk_ii, dk_si, dk_is, bigLine, ownOk, mapOut, turnF, dictAt, lockVar, hide, unhide, bls, inD, D.isNon, List.lookup, ctx_call, io_row_of, io_kind_of, io_roles_of, io_gloss_of, io_senses_of_kind, io_is_such, io_such_ones, io_individual_of, io_is_reached, io_goes_on, io_true_of, io_true_in, io_answer_in, io_is_number, io_is_ascending, io_is_individual, io_is_pair, io_are_pairs, io_is_fact, io_are_facts, io_are_all_names, io_is_model, io_law_draws, io_law_next, io_law_pick, io_law_same, io_law_ground, io_law_of_kind, io_law_text_of, io_law_more_text, io_law_thing, io_law_more, io_law_filler, io_law_meaning, io_law_model, io_law_wider, io_law, *])
/-! ### what a drawn ground is -/
structure GrOk (g : List Rw) : Prop where
  len : g.length ≤ 20
  nodup : (g.map (·.s)).Nodup
  row : ∀ r ∈ g, ((r.k = [116, 104, 105, 110, 103] ∨ r.k = [113, 117, 97, 108, 105, 116, 121] ∨ r.k = [110, 97, 109, 101]) ∧ r.more = []) ∨ (∃ rs : List Txt, r = rDo r.s rs ∧ 1 ≤ rs.length ∧ rs.length ≤ 3 ∧ ∀ x ∈ rs, x.length ≤ 100) ∨ r = rPup ∨ r = rWatch
  short : ∀ r ∈ g, r.s.length ≤ 20
  dog : rThing [100, 111, 103] ∈ g
  stone : rThing [115, 116, 111, 110, 101] ∈ g
  ana : rName [97, 110, 97] ∈ g
  sleep : rDo [115, 108, 101, 101, 112] [[87, 72, 79]] ∈ g
  sees : rDo [115, 101, 101] [[87, 72, 79], [87, 72, 65, 84]] ∈ g
  red : rQual [114, 101, 100] ∈ g
theorem mem_opt {α : Type} {b : Bool} {x y : α} (h : y ∈ opt b x) : y = x := by
  unfold opt at h
  split at h <;> simp at h
  exact h
theorem grd_mem {t b c v u p q : Bool} {r : Rw} (h : r ∈ grd t b c v u p q) : r = rThing [100, 111, 103] ∨ r = rThing [115, 116, 111, 110, 101] ∨ r = rThing [116, 114, 101, 101] ∨ r = rQual [111, 108, 100] ∨ r = rQual [114, 101, 100] ∨ r = rQual [98, 105, 103] ∨ r = rName [97, 110, 97] ∨ r = rName [98, 111] ∨ r = rDo [115, 108, 101, 101, 112] [[87, 72, 79]] ∨ r = rDo [115, 101, 101] [[87, 72, 79], [87, 72, 65, 84]] ∨ r = rDo (gv v) (gr u) ∨ r = rPup ∨ r = rWatch := by
  unfold grd g1 g2 at h
  simp only [List.mem_append, List.mem_cons, List.not_mem_nil, or_false] at h
  rcases h with (((((((h | h) | h) | (h | h)) | h) | ((h | h) | (h | h))) | h) | h) | h
  all_goals first | (subst h; simp; done) | (have := mem_opt h; subst this; simp; done) | skip
theorem grd_ok (t b c v u p q : Bool) : GrOk (grd t b c v u p q) := by
  refine ⟨?_, ?_, fun r hr => ?_, fun r hr => ?_, ?_, ?_, ?_, ?_, ?_, ?_⟩
  · unfold grd g1 g2 opt; cases t <;> cases b <;> cases c <;> cases p <;> cases q <;> simp
  · revert t b c v u p q; decide
  · rcases grd_mem hr with rfl | rfl | rfl | rfl | rfl | rfl | rfl | rfl | rfl | rfl | rfl | rfl | rfl
    · exact .inl ⟨.inl rfl, rfl⟩
    · exact .inl ⟨.inl rfl, rfl⟩
    · exact .inl ⟨.inl rfl, rfl⟩
    · exact .inl ⟨.inr (.inl rfl), rfl⟩
    · exact .inl ⟨.inr (.inl rfl), rfl⟩
    · exact .inl ⟨.inr (.inl rfl), rfl⟩
    · exact .inl ⟨.inr (.inr rfl), rfl⟩
    · exact .inl ⟨.inr (.inr rfl), rfl⟩
    · exact .inr (.inl ⟨[[87, 72, 79]], rfl, by simp, by simp, by simp⟩)
    · exact .inr (.inl ⟨[[87, 72, 79], [87, 72, 65, 84]], rfl, by simp, by simp, by simp⟩)
    · exact .inr (.inl ⟨gr u, rfl, by cases u <;> simp [gr], by cases u <;> simp [gr], by cases u <;> simp [gr]⟩)
    · exact .inr (.inr (.inl rfl))
    · exact .inr (.inr (.inr rfl))
  · rcases grd_mem hr with rfl | rfl | rfl | rfl | rfl | rfl | rfl | rfl | rfl | rfl | rfl | rfl | rfl <;> try decide
    cases v <;> cases u <;> decide
  · unfold grd g1; simp
  · unfold grd g1; simp
  · unfold grd g2; simp
  · unfold grd g2; simp
  · unfold grd g2; simp
  · unfold grd g1; simp
/-- senses of these kinds -/
def kindL (g : List Rw) (ks : List Txt) : List Txt := (g.filter fun r => decide (r.k ∈ ks)).map (·.s)
theorem mem_kindL {g : List Rw} {ks : List Txt} {s : Txt} : s ∈ kindL g ks ↔ ∃ r ∈ g, r.k ∈ ks ∧ r.s = s := by
  unfold kindL
  simp only [List.mem_map, List.mem_filter, decide_eq_true_eq]
  exact ⟨fun ⟨r, ⟨h1, h2⟩, h3⟩ => ⟨r, h1, h2, h3⟩, fun ⟨r, h1, h2, h3⟩ => ⟨r, ⟨h1, h2⟩, h3⟩⟩
theorem nodup_kindL {g : List Rw} (h : GrOk g) (ks : List Txt) : (kindL g ks).Nodup := by
  unfold kindL
  exact h.nodup.sublist (List.filter_sublist.map _)
theorem len_kindL {g : List Rw} (h : GrOk g) (ks : List Txt) : (kindL g ks).length ≤ 20 := by
  unfold kindL
  rw [List.length_map]
  exact Nat.le_trans (List.length_filter_le _ _) h.len
theorem run_kindL (n : Nat) {g : List Rw} (h : GrOk g) (ks : List Txt) : Fi.run T G (n + 1) "_law_of_kind" [(false, gD g), (false, .tup (ks.map .str))] = some (.ow (.lst ((kindL g ks).map .str)), [.sh (gD g), .sh (.tup (ks.map .str))]) := by
  have := run_of_kind n g (by have := h.len; omega) ks
  unfold kindL
  rw [List.map_map]
  exact this
/-- a pick of a list -/
theorem pick_of {α : Type} (L : List α) (hL : L ≠ []) (ds : List Int) (i : Nat) : ∃ s ∈ L, 0 ≤ nxt ds i L.length ∧ nxt ds i L.length < L.length ∧ L[(nxt ds i L.length).toNat]? = some s ∧ (nxt ds i L.length).toNat < L.length := by
  have hl : 0 < L.length := List.length_pos_iff.mpr hL
  have h := nxt_le (ds := ds) (i := i) (m := L.length) (by omega)
  have hj : (nxt ds i L.length).toNat < L.length := by omega
  exact ⟨L[(nxt ds i L.length).toNat], List.getElem_mem hj, h.1, h.2, List.getElem?_eq_getElem hj, hj⟩
/-! ### drawn fillers -/
def times3 : List Txt := [[112, 97, 115, 116], [110, 111, 119], [108, 97, 116, 101, 114]]
def DrM (g : List Rw) (P : Fil → Prop) (mr : Mr) : Prop := ∃ (rs : List Txt) (k : Nat) (fs0 : List Fil), rDo mr.2.2.2.2.1 rs ∈ g ∧ rs[k]? = some mr.1 ∧ mr.2.1 = [109, 111, 114, 101] ∧ mr.2.2.1 ∈ times3 ∧ mr.2.2.2.1 ∈ [[121, 101, 115], [110, 111]] ∧
  fs0.length = rs.length ∧ mr.2.2.2.2.2 = fs0.set k (.one [115, 101, 108, 102]) ∧ ∀ f ∈ fs0, P f
def Dr (g : List Rw) : Nat → Fil → Prop
  | _, .one w => w = [115, 112, 101, 97, 107, 101, 114] ∨ w = [104, 101, 97, 114, 101, 114]
  | _, .name s => s ∈ kindL g [[110, 97, 109, 101]]
  | 0, .thing s num fix qs ms => s ∈ kindL g [[116, 104, 105, 110, 103], [103, 108, 111, 115, 115]] ∧ num ∈ [[111, 110, 101], [109, 97, 110, 121]] ∧ fix ∈ [[116, 104, 105, 115], [115, 111, 109, 101], [101, 97, 99, 104], [110, 111]] ∧ qs.length ≤ 20 ∧ (∀ q ∈ qs, q ∈ kindL g [[113, 117, 97, 108, 105, 116, 121]]) ∧ qs.Pairwise (· < ·) ∧ ms = []
  | r + 1, .thing s num fix qs ms => s ∈ kindL g [[116, 104, 105, 110, 103], [103, 108, 111, 115, 115]] ∧ num ∈ [[111, 110, 101], [109, 97, 110, 121]] ∧ fix ∈ [[116, 104, 105, 115], [115, 111, 109, 101], [101, 97, 99, 104], [110, 111]] ∧ qs.length ≤ 20 ∧ (∀ q ∈ qs, q ∈ kindL g [[113, 117, 97, 108, 105, 116, 121]]) ∧ qs.Pairwise (· < ·) ∧
    ms.length ≤ 2 ∧ (ms.map txM).Pairwise (· < ·) ∧ ∀ mr ∈ ms, DrM g (Dr g r) mr
def WL (ds : List Int) (i : Nat) (l : Int) : D := .dct false [(kDraws, .lst (ds.map .int)), (kAt, .int i), (kLeft, .int l)]
theorem okRest_left (l : Int) : OkRest [(kLeft, D.int l)] := ⟨by simp [kLeft, kAt], by simp⟩
theorem next_WL (n : Nat) (ds : List Int) (i : Nat) (l m : Int) (hm : 0 < m) : Fi.run T G (n + 1) "_law_next" [(true, WL ds i l), (false, .int m)] = some (.sh (.int (nxt ds i m)), [.ow (WL ds (i + 1) l), .sh (.int m)]) := run_next rfl n ds i (okRest_left l) m hm
/-- what it is to draw a filler, by a def -/
def Draws (g : List Rw) (r : Nat) (P : Fil → Prop) (N : Nat) (f : Str) : Prop := ∀ (k : Nat) (ds : List Int) (i : Nat) (l : Int), ∃ (x : Fil) (i' : Nat) (l' : Int), P x ∧ Fi.run T G (N + k) f [(true, WL ds i l), (false, gD g), (false, .int r)] = some (.sh (filD x), [.ow (WL ds i' l'), .sh (gD g), .sh (.int r)])
theorem draws_filler {g : List Rw} (hg : GrOk g) (r N : Nat) (h : Draws g r (Dr g r) (N + 1) "_law_thing") : Draws g r (Dr g r) (N + 2) "_law_filler" := by
  intro k ds i l
  rw [show N + 2 + k = N + 1 + k + 1 by omega]
  have hN : ∀ (i : Nat) (l m : Int), 0 < m → Fi.run T G (N + 1 + k) "_law_next" [(true, WL ds i l), (false, .int m)] = some (.sh (.int (nxt ds i m)), [.ow (WL ds (i + 1) l), .sh (.int m)]) := fun i l m hm => by
    rw [show N + 1 + k = N + k + 1 by omega]; exact next_WL _ ds i l m hm
  have he := eqv_int
  have i1 := io_law_next
  have i2 := io_law_of_kind
  have i3 := io_law_thing
  have six := nxt_le (ds := ds) (i := i) (m := 6) (by omega)
  by_cases h0 : nxt ds i 6 = 0
  · rcases nxt_two ds (i + 1) with h1 | h1
    · refine ⟨.one [115, 112, 101, 97, 107, 101, 114], i + 2, l, by cases r <;> exact .inl rfl, ?_⟩
      clear h
      refine run_eq (fn := f_law_filler) (E0 := ⟨[.ow (WL ds i l), .sh (gD g), .sh (.int r), .un, .un], [0]⟩) rfl rfl rfl ?_
      show WB _ c_law_filler _ (Done 3 _)
      unfold c_law_filler filD
      generalize gD g = gd at *
      generalize T = T' at *
      walk_at "fi"
    · refine ⟨.one [104, 101, 97, 114, 101, 114], i + 2, l, by cases r <;> exact .inr rfl, ?_⟩
      clear h
      refine run_eq (fn := f_law_filler) (E0 := ⟨[.ow (WL ds i l), .sh (gD g), .sh (.int r), .un, .un], [0]⟩) rfl rfl rfl ?_
      show WB _ c_law_filler _ (Done 3 _)
      unfold c_law_filler filD
      generalize gD g = gd at *
      generalize T = T' at *
      walk_at "fi"
  · by_cases h1 : nxt ds i 6 = 1
    · have hk := run_kindL (N + k) hg [[110, 97, 109, 101]]
      rw [show N + k + 1 = N + 1 + k by omega] at hk
      obtain ⟨s, hs, p1, p2, p3, p4⟩ := pick_of (kindL g [[110, 97, 109, 101]]) (List.ne_nil_of_mem (mem_kindL.mpr ⟨_, hg.ana, by simp [rName], rfl⟩)) ds (i + 1)
      refine ⟨.name s, i + 2, l, by cases r <;> exact hs, ?_⟩
      clear h
      refine run_eq (fn := f_law_filler) (E0 := ⟨[.ow (WL ds i l), .sh (gD g), .sh (.int r), .un, .un], [0]⟩) rfl rfl rfl ?_
      show WB _ c_law_filler _ (Done 3 _)
      unfold c_law_filler filD tName
      simp only [List.map_cons, List.map_nil] at hk
      generalize kindL g [[110, 97, 109, 101]] = L at *
      have q1 : 0 < L.length := by omega
      have q2 : (0 : Int) < (L.length : Int) := by omega
      have p5 : L[(nxt ds (i + 1) L.length).toNat] = s := by rw [List.getElem?_eq_getElem p4] at p3; exact Option.some.inj p3
      generalize gD g = gd at *
      generalize T = T' at *
      walk_at "fi"
    · obtain ⟨x, i', l', hx, hr⟩ := h k ds (i + 1) l
      refine ⟨x, i', l', hx, ?_⟩
      refine run_eq (fn := f_law_filler) (E0 := ⟨[.ow (WL ds i l), .sh (gD g), .sh (.int r), .un, .un], [0]⟩) rfl rfl rfl ?_
      show WB _ c_law_filler _ (Done 3 _)
      unfold c_law_filler
      clear h
      generalize filD x = xd at *
      generalize gD g = gd at *
      generalize T = T' at *
      walk_at "fi"
end K56
end

section
set_option maxRecDepth 100000
set_option maxHeartbeats 4000000
namespace K56
open PySem L2 Fi
local macro_rules | `(tactic| walk_at "fi") => `(tactic| simp [WB_cons, WB_nil, WS_asg, WS_par, WS_aug, WS_augIx, WS_setIx, WS_ex, WS_ret, WS_retN, WS_brk, WS_cnt, WS_pas, WS_ite, iteQ_some, iteT_t, iteT_f, cont_nx, cont_rt, cont_bk, cont_ct, Lp_nx, Lp_ct, Lp_rt, Lp_bk, Lw_nx, Lw_ct, Lw_rt, Lw_bk, WT, Done_rt, Done_nx, giveD_sh, giveD_ow, giveD_pk, finsD, rg0, rg1, rg2, rg3, rg4, rg5, rg6, evS, evE, evEs, evO, evT, evI, evFs, Env.tkf, putp, Env.get, Env.put, Env.vw, Env.rd, Env.tk, Env.tks, Env.free, Rs.fz, op2D, addD, subD, mulD, fdivD, modD, powD, cmpA, ordD, nlk_un, nlk_sh, nlk_ow, nlk_lk, isD, iopD, iaddD, inopD, iaddI, op1D, PR.rs, D.truth, D.len, ixD, ix, partD, cutD, revD, lenB, absB, intB, tupleB, listB, anyB, allB, isinstB, bltD, getB, mthD, mthTy, appendB, extendB, popB, mutD, mutTy, setD, D.key, DKey.ok, tyNames, D.tyName, tySub, lock, unlock, lkFree, seqD, puts, bindT, Tg.slots, wipeE, back, argsOf, lent, lentOk, Ar.pass, behind, dk_ss, dk_ii, dk_si, dk_is, bigLine, ownOk, mapOut, turnF, dictAt, lockVar, hide, unhide, bls, inD, D.isNon, List.lookup, ctx_call, io_row_of, io_kind_of, io_roles_of, io_gloss_of, io_senses_of_kind, io_is_such, io_such_ones, io_individual_of, io_is_reached, io_goes_on, io_true_of, io_true_in, io_answer_in, io_is_number, io_is_ascending, io_is_individual, io_is_pair, io_are_pairs, io_is_fact, io_are_facts, io_are_all_names, io_is_model, io_law_draws, io_law_next, io_law_pick, io_law_same, io_law_ground, io_law_of_kind, io_law_text_of, io_law_more_text, io_law_thing, io_law_more, io_law_filler, io_law_meaning, io_law_model, io_law_wider, io_law, *])
local macro_rules | `(tactic| walk_at "fs") => `(tactic| simp [WB_cons, WB_nil, WS_asg, WS_par, WS_aug, WS_augIx, WS_setIx, WS_ex, WS_ret, WS_retN, WS_brk, WS_cnt, WS_pas, WS_ite, iteQ_some, iteT_t, iteT_f, cont_nx, cont_rt, cont_bk, cont_ct, Lp_nx, Lp_ct, Lp_rt, Lp_bk, Lw_nx, Lw_ct, Lw_rt, Lw_bk, WT, Done_rt, Done_nx, giveD_sh, giveD_ow, giveD_pk, finsD, rg0, rg1, rg2, rg3, rg4, rg5, rg6, evS, evE, evEs, evO, evT, evI, evFs, Env.tkf, putp, Env.get, Env.put, Env.vw, Env.rd, Env.tk, Env.tks, Env.free, Rs.fz, op2D, addD, subD, mulD, fdivD, modD, powD, cmpA, ordD, nlk_un, nlk_sh, nlk_ow, nlk_lk, isD, iopD, iaddD, inopD, iaddI, op1D, PR.rs, D.truth, D.len, ixD, ix, partD, cutD, revD, lenB, absB, intB, tupleB, listB, anyB, allB, isinstB, bltD, getB, mthD, mthTy, appendB, extendB, popB, mutD, mutTy, tyNames, D.tyName, tySub, lock, unlock, lkFree, seqD, puts, bindT, Tg.slots, wipeE, back, argsOf, lent, lentOk, Ar.pass, behind, dk_ss, dk_ii, dk_si, dk_is, bigLine, ownOk, mapOut, turnF, dictAt, lockVar, hide, unhide, bls, inD, D.isNon, List.lookup, ctx_call, io_row_of, io_kind_of, io_roles_of, io_gloss_of, io_senses_of_kind, io_is_such, io_such_ones, io_individual_of, io_is_reached, io_goes_on, io_true_of, io_true_in, io_answer_in, io_is_number, io_is_ascending, io_is_individual, io_is_pair, io_are_pairs, io_is_fact, io_are_facts, io_are_all_names, io_is_model, io_law_draws, io_law_next, io_law_pick, io_law_same, io_law_ground, io_law_of_kind, io_law_text_of, io_law_more_text, io_law_thing, io_law_more, io_law_filler, io_law_meaning, io_law_model, io_law_wider, io_law, *])
/-! ### drawn mores, things -/
def doL (g : List Rw) : List Rw := g.filter fun r => decide (r.k = [100, 111, 105, 110, 103])
theorem doL_row {g : List Rw} (h : GrOk g) {r : Rw} (hr : r ∈ doL g) : ∃ rs : List Txt, r = rDo r.s rs ∧ r ∈ g ∧ 1 ≤ rs.length ∧ rs.length ≤ 3 ∧ ∀ x ∈ rs, x.length ≤ 100 := by
  unfold doL at hr
  rw [List.mem_filter, decide_eq_true_eq] at hr
  obtain ⟨h1, h2⟩ := hr
  rcases h.row r h1 with ⟨h3, _⟩ | ⟨rs, h3, h4⟩ | h3 | h3
  · rw [h2] at h3; exact absurd h3 (by decide)
  · exact ⟨rs, h3, h1, h4⟩
  · rw [h3] at h2; exact absurd h2 (by decide)
  · rw [h3] at h2; exact absurd h2 (by decide)
theorem doL_ne {g : List Rw} (h : GrOk g) : doL g ≠ [] := List.ne_nil_of_mem (a := rDo [115, 108, 101, 101, 112] [[87, 72, 79]]) (by unfold doL; rw [List.mem_filter]; exact ⟨h.sleep, by simp [rDo]⟩)
theorem cmp_rows3 (C : Fi.Ctx) (g : List Rw) (hg : g.length ≤ 20) (s0 s2 s4 s5 s6 s7 : Sl) :
    evE C k2_law_more ⟨[s0, .sh (gD g), s2, .un, s4, s5, s6, s7], [0]⟩ = some (.ow (.lst ((doL g).map rwD)), ⟨[s0, .sh (gD g), s2, .un, s4, s5, s6, s7], [0]⟩) := by
  refine cmpV_filter rwD rwD (fun r => decide (r.k = [100, 111, 105, 110, 103])) g (d := gD g) (l := none) (E1 := ⟨[s0, .sh (gD g), s2, .un, s4, s5, s6, s7], [0]⟩) rfl rfl rfl rfl (fun r _ => ?_) (by unfold bigLine; omega) rfl
  have h0 : (0 : Int) < (r.more.length : Int) + 1 + 1 := by omega
  unfold rwD
  generalize gD g = gd at *
  by_cases h : r.k = [100, 111, 105, 110, 103]
  · walk_at "fi"
  · walk_at "fi"
theorem pick_three (v : Int) (h : v = 0 ∨ v = 1 ∨ v = 2) (a b c : Txt) : ∃ t ∈ [a, b, c], (v = 0 ∧ a = t) ∨ (v = 1 ∧ b = t) ∨ (v = 2 ∧ c = t) := by
  rcases h with rfl | rfl | rfl
  · exact ⟨a, by simp, by simp⟩
  · exact ⟨b, by simp, by simp⟩
  · exact ⟨c, by simp, by simp⟩
theorem pick_two (v : Int) (h : v = 0 ∨ v = 1) (a b : Txt) : ∃ t ∈ [a, b], (v = 0 ∧ a = t) ∨ (v = 1 ∧ b = t) := by
  rcases h with rfl | rfl
  · exact ⟨a, by simp, by simp⟩
  · exact ⟨b, by simp, by simp⟩
theorem pick_four (v : Int) (h : v = 0 ∨ v = 1 ∨ v = 2 ∨ v = 3) (a b c d : Txt) : ∃ t ∈ [a, b, c, d], (v = 0 ∧ a = t) ∨ (v = 1 ∧ b = t) ∨ (v = 2 ∧ c = t) ∨ (v = 3 ∧ d = t) := by
  rcases h with rfl | rfl | rfl | rfl
  · exact ⟨a, by simp, by simp⟩
  · exact ⟨b, by simp, by simp⟩
  · exact ⟨c, by simp, by simp⟩
  · exact ⟨d, by simp, by simp⟩
theorem cmp_fill {kk : CE} {g : List Rw} (r N : Nat) (T' : Str → Option Fn) (i1 : (ctxOf T' G N).io "_law_filler" = [true, false, false]) (P : Fil → Prop) (w rd gd : D) (d : Txt) (rs : List Txt) (hrs : rs.length ≤ 3) (ds : List Int) (i : Nat) (l : Int) (rows k : Sl)
    (hk : kk = .cmp (.call "_law_filler" (.cons (.var 0) (.cons (.var 1) (.cons (.var 2) .nil)))) (.mk (.nm 7) (.seq (.idx (.var 3) (.con (.int 2)))) .nil) [7])
    (h : ∀ (i : Nat) (l : Int), ∃ (x : Fil) (i' : Nat) (l' : Int), P x ∧ Fi.run T' G N "_law_filler" [(true, WL ds i l), (false, gd), (false, rd)] = some (.sh (filD x), [.ow (WL ds i' l'), .sh gd, .sh rd])) :
    ∃ (fs : List Fil) (i' : Nat) (l' : Int), fs.length = rs.length ∧ (∀ f ∈ fs, P f) ∧ evE (ctxOf T' G N) kk ⟨[.ow (WL ds i l), .sh gd, .sh rd, .sh (.tup [.str [100, 111, 105, 110, 103], .str d, .tup (rs.map .str)]), rows, k, .un, .un], [0]⟩
      = some (.ow (.lst (fs.map filD)), ⟨[.ow (WL ds i' l'), .sh gd, .sh rd, .sh (.tup [.str [100, 111, 105, 110, 103], .str d, .tup (rs.map .str)]), rows, k, .un, .un], [0]⟩) := by
  subst hk
  have step : ∀ x ∈ rs, ∀ E2, (∃ (i : Nat) (l : Int), E2 = ⟨[.ow (WL ds i l), .sh gd, .sh rd, .sh (.tup [.str [100, 111, 105, 110, 103], .str d, .tup (rs.map .str)]), rows, k, .un, .un], [0]⟩) → ∃ (y : Fil) (E3 : Fi.Env), turnF (.nm 7) (evT (ctxOf T' G N) .nil) (evE (ctxOf T' G N) (.call "_law_filler" (.cons (.var 0) (.cons (.var 1) (.cons (.var 2) .nil))))) [7] (.str x) E2 = some (some (filD y), E3) ∧ (∃ (i : Nat) (l : Int), E3 = ⟨[.ow (WL ds i l), .sh gd, .sh rd, .sh (.tup [.str [100, 111, 105, 110, 103], .str d, .tup (rs.map .str)]), rows, k, .un, .un], [0]⟩) ∧ P y := by
    rintro t ht E2 ⟨i, l, rfl⟩
    obtain ⟨x, i', l', hx, hr⟩ := h i l
    refine ⟨x, _, ?_, ⟨i', l', rfl⟩, hx⟩
    clear h
    generalize filD x = xd at *
    walk_at "fi"
  have hev : evI (ctxOf T' G N) (.seq (.idx (.var 3) (.con (.int 2)))) ⟨[.ow (WL ds i l), .sh gd, .sh rd, .sh (.tup [.str [100, 111, 105, 110, 103], .str d, .tup (rs.map .str)]), rows, k, .un, .un], [0]⟩ = some (rs.map D.str, none, ⟨[.ow (WL ds i l), .sh gd, .sh rd, .sh (.tup [.str [100, 111, 105, 110, 103], .str d, .tup (rs.map .str)]), rows, k, .un, .un], [0]⟩) := by
    clear h step
    walk_at "fi"
  have key := cmp_rel (fun t : Txt => D.str t) filD (fun _ f => P f) rs (I := fun E' => ∃ (i : Nat) (l : Int), E' = ⟨[.ow (WL ds i l), .sh gd, .sh rd, .sh (.tup [.str [100, 111, 105, 110, 103], .str d, .tup (rs.map .str)]), rows, k, .un, .un], [0]⟩) hev rfl ⟨i, l, rfl⟩ step (by unfold bigLine; omega)
  obtain ⟨fs, E3, k1, ⟨i', l', rfl⟩, k3⟩ := key
  exact ⟨fs, i', l', k3.length, fun f hf => (k3.mem f hf).elim fun _ z => z.2, k1⟩
theorem draws_more {g : List Rw} (hg : GrOk g) (r N : Nat) (h : Draws g r (Dr g r) (N + 1) "_law_filler") (k : Nat) (ds : List Int) (i : Nat) (l : Int) :
    ∃ (x : Mr) (i' : Nat) (l' : Int), DrM g (Dr g r) x ∧ Fi.run T G (N + 2 + k) "_law_more" [(true, WL ds i l), (false, gD g), (false, .int r)] = some (.sh (mrD' x), [.ow (WL ds i' l'), .sh (gD g), .sh (.int r)]) := by
  obtain ⟨ro, hro, p1, p2, p3, p4⟩ := pick_of (doL g) (doL_ne hg) ds i
  obtain ⟨rs, e1, e2, e3, e4, e5⟩ := doL_row hg hro
  obtain ⟨rl, hrl, q1, q2, q3, q4⟩ := pick_of rs (List.ne_nil_of_length_pos (by omega)) ds (i + 1)
  obtain ⟨fs, i', l', f1, f2, f3⟩ := cmp_fill (kk := k1_law_more) (g := g) r (N + 1 + k) T (io_law_filler _) (Dr g r) (.non) (.int r) (gD g) ro.s rs e4 ds (i + 2) l (.ow (.lst ((doL g).map rwD))) (.sh (.int (nxt ds (i + 1) rs.length))) rfl (fun i l => h k ds i l)
  obtain ⟨t, ht, t1⟩ := pick_three (nxt ds i' 3) (nxt_three ds i') [112, 97, 115, 116] [110, 111, 119] [108, 97, 116, 101, 114]
  obtain ⟨y, hy, y1⟩ := pick_two (nxt ds (i' + 1) 2) (nxt_two ds (i' + 1)) [121, 101, 115] [110, 111]
  have e6 : rDo ro.s rs ∈ g := by rw [← e1]; exact e2
  refine ⟨(rl, [109, 111, 114, 101], t, y, ro.s, fs.set (nxt ds (i + 1) rs.length).toNat (.one [115, 101, 108, 102])), i' + 2, l', ⟨rs, (nxt ds (i + 1) rs.length).toNat, fs, e6, q3, rfl, ht, hy, f1, rfl, f2⟩, ?_⟩
  rw [show N + 2 + k = N + 1 + k + 1 by omega]
  have hN : ∀ (i : Nat) (l m : Int), 0 < m → Fi.run T G (N + 1 + k) "_law_next" [(true, WL ds i l), (false, .int m)] = some (.sh (.int (nxt ds i m)), [.ow (WL ds (i + 1) l), .sh (.int m)]) := fun i l m hm => by
    rw [show N + 1 + k = N + k + 1 by omega]; exact next_WL _ ds i l m hm
  have i1 := io_law_next
  have hrow : rwD ro = .tup [.str [100, 111, 105, 110, 103], .str ro.s, .tup (rs.map .str)] := by rw [e1]; rfl
  have c1 := cmp_rows3 (ctxOf T G (N + 1 + k)) g hg.len (.ow (WL ds i l)) (.sh (.int r)) .un .un .un .un
  have p5 : (doL g)[(nxt ds i (doL g).length).toNat] = ro := by rw [List.getElem?_eq_getElem p4] at p3; exact Option.some.inj p3
  have q5 : rs[(nxt ds (i + 1) rs.length).toNat] = rl := by rw [List.getElem?_eq_getElem q4] at q3; exact Option.some.inj q3
  have hset : (fs.map filD).set (nxt ds (i + 1) rs.length).toNat (.tup [.str [115, 101, 108, 102]]) = (fs.set (nxt ds (i + 1) rs.length).toNat (.one [115, 101, 108, 102])).map filD := by
    rw [List.map_set]; congr 1
  have a1 : 0 < (doL g).length := by omega
  have a2 : (0 : Int) < ((doL g).length : Int) := by omega
  have a3 : 0 < rs.length := by omega
  have a4 : (0 : Int) < (rs.length : Int) := by omega
  clear h e1 e5 e6 hro hg f2
  refine run_eq (fn := f_law_more) (E0 := ⟨[.ow (WL ds i l), .sh (gD g), .sh (.int r), .un, .un, .un, .un, .un], [0]⟩) rfl rfl rfl ?_
  show WB _ c_law_more _ (Done 3 _)
  unfold c_law_more
  generalize hk2 : k2_law_more = kk2 at *
  generalize hk1 : k1_law_more = kk1 at *
  clear hk1 hk2
  unfold mrD'
  simp only [clD_mk]
  unfold tClause
  rw [← hset]
  generalize doL g = DL at *
  generalize gD g = gd at *
  generalize hFM : fs.map filD = FM at *
  generalize hM : DL.map rwD = DM at *
  have hfl : FM.length = rs.length := by rw [← hFM]; simpa using f1
  have b1 : DM.length = DL.length := by rw [← hM]; simp
  have b2 : DM[(nxt ds i DL.length).toNat]? = some (.tup [.str [100, 111, 105, 110, 103], .str ro.s, .tup (rs.map .str)]) := by rw [← hM, List.getElem?_map, p3]; exact congrArg some hrow
  have c1' : 0 ≤ nxt ds i DM.length := by rw [b1]; exact p1
  have c2' : nxt ds i DM.length < DM.length := by rw [b1]; exact p2
  have c3' : DM[(nxt ds i DM.length).toNat]? = some (.tup [.str [100, 111, 105, 110, 103], .str ro.s, .tup (rs.map .str)]) := by rw [b1]; exact b2
  have c4' : (nxt ds i DM.length).toNat < DM.length := by omega
  have c5' : DM[(nxt ds i DM.length).toNat] = .tup [.str [100, 111, 105, 110, 103], .str ro.s, .tup (rs.map .str)] := by rw [List.getElem?_eq_getElem c4'] at c3'; exact Option.some.inj c3'
  have c6' : 0 < DM.length := by omega
  have c7' : (0 : Int) < (DM.length : Int) := by omega
  clear hM hrow p5 p1 p2 p3 p4 b1 b2 a1 a2
  refine wb_step (E1 := ⟨[.ow (WL ds i l), .sh gd, .sh (.int r), .un, .ow (.lst DM), .un, .un, .un], [0]⟩) (by walk_at "fi") ?_
  refine wb_step (E1 := ⟨[.ow (WL ds (i + 1) l), .sh gd, .sh (.int r), .sh (.tup [.str [100, 111, 105, 110, 103], .str ro.s, .tup (rs.map .str)]), .ow (.lst DM), .un, .un, .un], [0]⟩) (by clear c3'; walk_at "fi") ?_
  refine wb_step (E1 := ⟨[.ow (WL ds (i + 2) l), .sh gd, .sh (.int r), .sh (.tup [.str [100, 111, 105, 110, 103], .str ro.s, .tup (rs.map .str)]), .ow (.lst DM), .sh (.int (nxt ds (i + 1) rs.length)), .un, .un], [0]⟩) (by walk_at "fi") ?_
  refine wb_step (E1 := ⟨[.ow (WL ds i' l'), .sh gd, .sh (.int r), .sh (.tup [.str [100, 111, 105, 110, 103], .str ro.s, .tup (rs.map .str)]), .ow (.lst DM), .sh (.int (nxt ds (i + 1) rs.length)), .ow (.lst FM), .un], [0]⟩) (by walk_at "fi") ?_
  refine wb_step (E1 := ⟨[.ow (WL ds i' l'), .sh gd, .sh (.int r), .sh (.tup [.str [100, 111, 105, 110, 103], .str ro.s, .tup (rs.map .str)]), .ow (.lst DM), .sh (.int (nxt ds (i + 1) rs.length)), .ow (.lst (FM.set (nxt ds (i + 1) rs.length).toNat (.tup [.str [115, 101, 108, 102]]))), .un], [0]⟩) (by walk_at "fi") ?_
  clear c1 f3 c3' c5' hset hFM ht hy hrl e2 q3
  rcases t1 with ⟨t1, rfl⟩ | ⟨t1, rfl⟩ | ⟨t1, rfl⟩ <;> rcases y1 with ⟨y1, rfl⟩ | ⟨y1, rfl⟩ <;> walk_at "fi"
end K56
end

section
set_option maxRecDepth 100000
set_option maxHeartbeats 4000000
namespace K56
open PySem L2 Fi
local macro_rules | `(tactic| walk_at "fi") => `(tactic| simp [WB_cons, WB_nil, WS_asg, WS_par, WS_aug, WS_augIx, WS_setIx, WS_ex, WS_ret, WS_retN, WS_brk, WS_cnt, WS_pas, WS_ite, iteQ_some, iteT_t, iteT_f, cont_nx, cont_rt, cont_bk, cont_ct, Lp_nx, Lp_ct, Lp_rt, Lp_bk, Lw_nx, Lw_ct, Lw_rt, Lw_bk, WT, Done_rt, Done_nx, giveD_sh, giveD_ow, giveD_pk, finsD, rg0, rg1, rg2, rg3, rg4, rg5, rg6, evS, evE, evEs, evO, evT, evI, evFs, Env.tkf, putp, Env.get, Env.put, Env.vw, Env.rd, Env.tk, Env.tks, Env.free, Rs.fz, op2D, addD, subD, mulD, fdivD, modD, powD, cmpA, ordD, nlk_un, nlk_sh, nlk_ow, nlk_lk, isD, iopD, iaddD, inopD, iaddI, op1D, PR.rs, D.truth, D.len, ixD, ix, partD, cutD, revD, lenB, absB, intB, tupleB, listB, anyB, allB, isinstB, bltD, getB, mthD, mthTy, appendB, extendB, popB, mutD, mutTy, setD, D.key, DKey.ok, tyNames, D.tyName, tySub, lock, unlock, lkFree, seqD, puts, bindT, Tg.slots, wipeE, back, argsOf, lent, lentOk, Ar.pass, behind, dk_ss, dk_ii, dk_si, dk_is, bigLine, ownOk, mapOut, turnF, dictAt, lockVar, hide, unhide, bls, inD, D.isNon, List.lookup, ctx_call, io_row_of, io_kind_of, io_roles_of, io_gloss_of, io_senses_of_kind, io_is_such, io_such_ones, io_individual_of, io_is_reached, io_goes_on, io_true_of, io_true_in, io_answer_in, io_is_number, io_is_ascending, io_is_individual, io_is_pair, io_are_pairs, io_is_fact, io_are_facts, io_are_all_names, io_is_model, io_law_draws, io_law_next, io_law_pick, io_law_same, io_law_ground, io_law_of_kind, io_law_text_of, io_law_more_text, io_law_thing, io_law_more, io_law_filler, io_law_meaning, io_law_model, io_law_wider, io_law, *])
local macro_rules | `(tactic| walk_at "fs") => `(tactic| simp [WB_cons, WB_nil, WS_asg, WS_par, WS_aug, WS_augIx, WS_setIx, WS_ex, WS_ret, WS_retN, WS_brk, WS_cnt, WS_pas, WS_ite, iteQ_some, iteT_t, iteT_f, cont_nx, cont_rt, cont_bk, cont_ct, Lp_nx, Lp_ct, Lp_rt, Lp_bk, Lw_nx, Lw_ct, Lw_rt, Lw_bk, WT, Done_rt, Done_nx, giveD_sh, giveD_ow, giveD_pk, finsD, rg0, rg1, rg2, rg3, rg4, rg5, rg6, evS, evE, evEs, evO, evT, evI, evFs, Env.tkf, putp, Env.get, Env.put, Env.vw, Env.rd, Env.tk, Env.tks, Env.free, Rs.fz, op2D, addD, subD, mulD, fdivD, modD, powD, cmpA, ordD, nlk_un, nlk_sh, nlk_ow, nlk_lk, isD, iopD, iaddD, inopD, iaddI, op1D, PR.rs, D.truth, D.len, ixD, ix, partD, cutD, revD, lenB, absB, intB, tupleB, listB, anyB, allB, isinstB, bltD, getB, mthD, mthTy, appendB, extendB, popB, mutD, mutTy, tyNames, D.tyName, tySub, lock, unlock, lkFree, seqD, puts, bindT, Tg.slots, wipeE, back, argsOf, lent, lentOk, Ar.pass, behind, dk_ss, dk_ii, dk_si, dk_is, bigLine, ownOk, mapOut, turnF, dictAt, lockVar, hide, unhide, bls, inD, D.isNon, List.lookup, ctx_call, io_row_of, io_kind_of, io_roles_of, io_gloss_of, io_senses_of_kind, io_is_such, io_such_ones, io_individual_of, io_is_reached, io_goes_on, io_true_of, io_true_in, io_answer_in, io_is_number, io_is_ascending, io_is_individual, io_is_pair, io_are_pairs, io_is_fact, io_are_facts, io_are_all_names, io_is_model, io_law_draws, io_law_next, io_law_pick, io_law_same, io_law_ground, io_law_of_kind, io_law_text_of, io_law_more_text, io_law_thing, io_law_more, io_law_filler, io_law_meaning, io_law_model, io_law_wider, io_law, *])
theorem kindL_short {g : List Rw} (hg : GrOk g) {ks : List Txt} {s : Txt} (h : s ∈ kindL g ks) : s.length ≤ 100 := by
  obtain ⟨r, h1, _, rfl⟩ := mem_kindL.mp h
  have := hg.short r h1
  omega
theorem DrM_len {g : List Rw} (hg : GrOk g) {P : Fil → Prop} {mr : Mr} (h : DrM g P mr) : mr.1.length ≤ 100 ∧ mr.2.2.1.length ≤ 100 ∧ mr.2.2.2.1.length ≤ 100 ∧ mr.2.2.2.2.1.length ≤ 100 ∧ mr.2.2.2.2.2.length ≤ 3 ∧ (∀ f ∈ mr.2.2.2.2.2, f = .one [115, 101, 108, 102] ∨ P f) := by
  obtain ⟨rs, k, fs0, h1, h2, h3, h4, h5, h6, h7, h8⟩ := h
  have hl : rs.length ≤ 3 ∧ ∀ x ∈ rs, x.length ≤ 100 := by
    rcases hg.row _ h1 with ⟨z, _⟩ | ⟨rs', e, _, e2, e3⟩ | e | e
    · exact absurd z (by simp [rDo])
    · have : rs' = rs := by
        unfold rDo at e
        simp only [Rw.mk.injEq] at e
        have e := e.2.2
        simp only [List.cons.injEq, D.tup.injEq, and_true] at e
        exact (List.map_inj_right (f := D.str) (fun a b h => by cases h; rfl)).mp e.symm
      rw [← this]
      exact ⟨e2, e3⟩
    · exact absurd (congrArg Rw.k e) (by simp [rDo, rPup])
    · exact absurd (congrArg Rw.k e) (by simp [rDo, rWatch])
  refine ⟨hl.2 _ (List.mem_of_getElem? h2), ?_, ?_, ?_, ?_, fun f hf => ?_⟩
  · simp only [times3, List.mem_cons, List.not_mem_nil, or_false] at h4
    rcases h4 with h | h | h <;> rw [h] <;> decide
  · simp only [List.mem_cons, List.not_mem_nil, or_false] at h5
    rcases h5 with h | h <;> rw [h] <;> decide
  · have := hg.short _ h1
    have e : (rDo mr.2.2.2.2.1 rs).s = mr.2.2.2.2.1 := rfl
    rw [e] at this
    omega
  · rw [h7, List.length_set, h6]; exact hl.1
  · rw [h7] at hf
    rcases List.mem_or_eq_of_mem_set hf with h | h
    · exact .inr (h8 f h)
    · exact .inl h
theorem dr_fine {g : List Rw} (hg : GrOk g) : ∀ (r : Nat) (f : Fil), Dr g r f → fine r f
  | r, .one w, h => by
    have h : w = [115, 112, 101, 97, 107, 101, 114] ∨ w = [104, 101, 97, 114, 101, 114] := by cases r <;> exact h
    have h9 : w = [115, 112, 101, 97, 107, 101, 114] ∨ w = [104, 101, 97, 114, 101, 114] ∨ w = [119, 104, 105, 99, 104] ∨ w = [115, 101, 108, 102] := h.elim .inl fun h => .inr (.inl h)
    cases r <;> exact h9
  | r, .name s, h => by
    have h : s ∈ kindL g [[110, 97, 109, 101]] := by cases r <;> exact h
    have := kindL_short hg h
    cases r <;> exact this
  | 0, .thing s num fix qs ms, ⟨h1, h2, h3, h4, h5, _, h6⟩ => by
    refine ⟨kindL_short hg h1, ?_, ?_, h4, fun q hq => kindL_short hg (h5 q hq), h6⟩
    · simp only [List.mem_cons, List.not_mem_nil, or_false] at h2; rcases h2 with h | h <;> rw [h] <;> decide
    · simp only [List.mem_cons, List.not_mem_nil, or_false] at h3; rcases h3 with h | h | h | h <;> rw [h] <;> decide
  | r + 1, .thing s num fix qs ms, ⟨h1, h2, h3, h4, h5, _, h6, _, h7⟩ => by
    refine ⟨kindL_short hg h1, ?_, ?_, h4, fun q hq => kindL_short hg (h5 q hq), by omega, fun mr hm => ?_⟩
    · simp only [List.mem_cons, List.not_mem_nil, or_false] at h2; rcases h2 with h | h <;> rw [h] <;> decide
    · simp only [List.mem_cons, List.not_mem_nil, or_false] at h3; rcases h3 with h | h | h | h <;> rw [h] <;> decide
    · obtain ⟨a1, a2, a3, a4, a5, a6⟩ := DrM_len hg (h7 mr hm)
      refine ⟨a1, a2, a3, a4, a5, fun f hf => ?_⟩
      rcases a6 f hf with h | h
      · rw [h]
        have h : ([115, 101, 108, 102] : Txt) = [115, 112, 101, 97, 107, 101, 114] ∨ ([115, 101, 108, 102] : Txt) = [104, 101, 97, 114, 101, 114] ∨ ([115, 101, 108, 102] : Txt) = [119, 104, 105, 99, 104] ∨ ([115, 101, 108, 102] : Txt) = [115, 101, 108, 102] := .inr (.inr (.inr rfl))
        cases r <;> exact h
      · exact dr_fine hg r f h
/-- the text of a drawn more -/
theorem run_moreT {g : List Rw} (hg : GrOk g) (r : Nat) (hr : r ≤ 1) (mr : Mr) (h : DrM g (Dr g r) mr) (n : Nat) (hn : 2 * r + 2 ≤ n) : Fi.run T G n "_law_more_text" [(false, mrD' mr)] = some (.sh (.str (txM mr)), [.sh (mrD' mr)]) := by
  obtain ⟨k, rfl⟩ : ∃ k, n = k + 1 := ⟨n - 1, by omega⟩
  obtain ⟨a1, a2, a3, a4, a5, a6⟩ := DrM_len hg h
  obtain ⟨rr, mo, t, y, d, fs⟩ := mr
  have hb : bnd r ≤ 100000 := by
    have : r = 0 ∨ r = 1 := by omega
    rcases this with rfl | rfl <;> simp [bnd]
  refine (txt_more k rr mo t y d fs (bnd r) (by omega) a1 a2 a3 a4 a5 fun f hf => run_text r (by omega) f ?_ k (by omega)).1
  rcases a6 f hf with h | h
  · rw [h]
    have h9 : ([115, 101, 108, 102] : Txt) = [115, 112, 101, 97, 107, 101, 114] ∨ ([115, 101, 108, 102] : Txt) = [104, 101, 97, 114, 101, 114] ∨ ([115, 101, 108, 102] : Txt) = [119, 104, 105, 99, 104] ∨ ([115, 101, 108, 102] : Txt) = [115, 101, 108, 102] := .inr (.inr (.inr rfl))
    cases r <;> exact h9
  · exact dr_fine hg r f h
/-! ### a thing is drawn -/
theorem sub_quals (C : Nat) {g : List Rw} (hg : GrOk g) (T' : Str → Option Fn) (i1 : (ctxOf T' G C).io "_law_next" = [true, false]) (i2 : (ctxOf T' G C).io "_law_of_kind" = [false, false]) (ds : List Int) (i : Nat) (l : Int) (gd : D) (L : List Txt) (hL : L.length ≤ 20) (s2 s3 : Sl)
    (hN : ∀ (i : Nat) (l m : Int), 0 < m → Fi.run T' G C "_law_next" [(true, WL ds i l), (false, .int m)] = some (.sh (.int (nxt ds i m)), [.ow (WL ds (i + 1) l), .sh (.int m)]))
    (hK : Fi.run T' G C "_law_of_kind" [(false, gd), (false, .tup [.str [113, 117, 97, 108, 105, 116, 121]])] = some (.ow (.lst (L.map .str)), [.sh gd, .sh (.tup [.str [113, 117, 97, 108, 105, 116, 121]])])) :
    ∃ (ys : List Txt) (i' : Nat), ys.Sublist L ∧ evE (ctxOf T' G C) k2_law_thing ⟨[.ow (WL ds i l), .sh gd, s2, s3, .un, .un, .un, .un, .un, .un, .un], [0]⟩ = some (.ow (.lst (ys.map .str)), ⟨[.ow (WL ds i' l), .sh gd, s2, s3, .un, .un, .un, .un, .un, .un, .un], [0]⟩) := by
  have hev : evI (ctxOf T' G C) (.seq (.call "_law_of_kind" (.cons (.var 1) (.cons (.tup (.cons (.con (.str [113, 117, 97, 108, 105, 116, 121])) .nil)) .nil)))) ⟨[.ow (WL ds i l), .sh gd, s2, s3, .un, .un, .un, .un, .un, .un, .un], [0]⟩ = some (L.map D.str, none, ⟨[.ow (WL ds i l), .sh gd, s2, s3, .un, .un, .un, .un, .un, .un, .un], [0]⟩) := by
    clear hN
    walk_at "fi"
  have he := eqv_int
  have step : ∀ x ∈ L, ∀ E2, (∃ i : Nat, E2 = ⟨[.ow (WL ds i l), .sh gd, s2, s3, .un, .un, .un, .un, .un, .un, .un], [0]⟩) → ∃ (b : Bool) (E3 : Fi.Env), turnF (.nm 9) (evT (ctxOf T' G C) (.cons (.op2 .eq (.call "_law_next" (.cons (.var 0) (.cons (.con (.int 3)) .nil))) (.con (.int 0))) .nil)) (evE (ctxOf T' G C) (.var 9)) [9] (.str x) E2 = some (if b = true then some (.str x) else none, E3) ∧ (∃ i : Nat, E3 = ⟨[.ow (WL ds i l), .sh gd, s2, s3, .un, .un, .un, .un, .un, .un, .un], [0]⟩) := by
    rintro x hx E2 ⟨i, rfl⟩
    refine ⟨decide (nxt ds i 3 = 0), _, ?_, ⟨i + 1, rfl⟩⟩
    clear hK hev
    by_cases h : nxt ds i 3 = 0
    · walk_at "fi"
    · walk_at "fi"
  have key := cmp_sub (fun t : Txt => D.str t) (fun t : Txt => D.str t) L (I := fun E' => ∃ i : Nat, E' = ⟨[.ow (WL ds i l), .sh gd, s2, s3, .un, .un, .un, .un, .un, .un, .un], [0]⟩) hev rfl ⟨i, rfl⟩ step (by unfold bigLine; omega)
  obtain ⟨ys, E3, k1, ⟨i', rfl⟩, k3⟩ := key
  exact ⟨ys, i', k3, k1⟩
def kvM (m : Mr) : DKey × D := (.s (txM m), mrD' m)
theorem kget_kvM : ∀ (ms : List Mr) (m : Mr), m ∈ ms → (ms.map txM).Nodup → kget (.s (txM m)) (ms.map kvM) = some (mrD' m)
  | [], _, h, _ => by simp at h
  | m' :: ms, m, h, hn => by
    rw [List.map_cons, List.nodup_cons] at hn
    unfold kget kvM
    rw [List.map_cons, List.lookup_cons]
    rcases List.mem_cons.mp h with rfl | h
    · simp
    · have : txM m ≠ txM m' := fun e => hn.1 (e ▸ List.mem_map_of_mem h)
      rw [show (DKey.s (txM m) == DKey.s (txM m')) = false by simpa using this]
      exact kget_kvM ms m h hn.2
theorem sKeys_kvM : ∀ ms : List Mr, sKeys false (ms.map kvM) = some ((ms.map txM).map .str)
  | [] => rfl
  | m :: ms => by
    rw [List.map_cons, List.map_cons, List.map_cons]
    unfold kvM sKeys
    rw [show (ms.map fun m => (DKey.s (txM m), mrD' m)) = ms.map kvM from rfl, sKeys_kvM ms]
    rfl
/-- mores put by their texts -/
def putM (ms : List Mr) (m : Mr) : List Mr := if (ms.any fun x => decide (txM x = txM m)) = true then ms.map (fun x => if txM x = txM m then m else x) else ms ++ [m]
theorem kput_kvM (ms : List Mr) (m : Mr) : kput (.s (txM m)) (mrD' m) (ms.map kvM) = (putM ms m).map kvM := by
  unfold kput putM
  have e : ((ms.map kvM).any fun kv => decide (kv.1 = DKey.s (txM m))) = ms.any fun x => decide (txM x = txM m) := by
    rw [List.any_map]
    congr 1
    funext x
    simp [kvM]
  rw [e]
  by_cases h : (ms.any fun x => decide (txM x = txM m)) = true
  · rw [if_pos h, if_pos h, List.map_map, List.map_map]
    congr 1
    funext x
    simp only [Function.comp, kvM, DKey.s.injEq]
    by_cases hx : txM x = txM m
    · rw [if_pos hx, if_pos hx, hx]
    · rw [if_neg hx, if_neg hx]
  · rw [if_neg h, if_neg h, List.map_append]
    rfl
theorem putM_mem {ms : List Mr} {m x : Mr} (h : x ∈ putM ms m) : x ∈ ms ∨ x = m := by
  unfold putM at h
  split at h
  · rw [List.mem_map] at h
    obtain ⟨y, hy, e⟩ := h
    split at e
    · exact .inr e.symm
    · exact .inl (e ▸ hy)
  · simpa using h
theorem putM_len (ms : List Mr) (m : Mr) : (putM ms m).length ≤ ms.length + 1 := by
  unfold putM
  split <;> simp
theorem putM_nodup {ms : List Mr} {m : Mr} (h : (ms.map txM).Nodup) : ((putM ms m).map txM).Nodup := by
  unfold putM
  split
  · rename_i hx
    have : (ms.map fun x => if txM x = txM m then m else x).map txM = ms.map txM := by
      rw [List.map_map]
      refine List.map_congr_left fun x _ => ?_
      simp only [Function.comp]
      split
      · rename_i e; exact e.symm
      · rfl
    rw [this]; exact h
  · rename_i hx
    rw [List.map_append, List.nodup_append]
    refine ⟨h, by simp, ?_⟩
    intro a ha b hb e
    simp only [List.map_cons, List.map_nil, List.mem_singleton] at hb
    rw [List.mem_map] at ha
    obtain ⟨y, hy, e2⟩ := ha
    apply hx
    rw [List.any_eq_true]
    exact ⟨y, hy, by rw [decide_eq_true_eq, e2, e, hb]⟩
end K56
end

section
set_option maxRecDepth 100000
set_option maxHeartbeats 4000000
namespace K56
open PySem L2 Fi
local macro_rules | `(tactic| walk_at "fi") => `(tactic| simp [WB_cons, WB_nil, WS_asg, WS_par, WS_aug, WS_augIx, WS_setIx, WS_ex, WS_ret, WS_retN, WS_brk, WS_cnt, WS_pas, WS_ite, iteQ_some, iteT_t, iteT_f, cont_nx, cont_rt, cont_bk, cont_ct, Lp_nx, Lp_ct, Lp_rt, Lp_bk, Lw_nx, Lw_ct, Lw_rt, Lw_bk, WT, Done_rt, Done_nx, giveD_sh, giveD_ow, giveD_pk, finsD, rg0, rg1, rg2, rg3, rg4, rg5, rg6, evS, evE, evEs, evO, evT, evI, evFs, Env.tkf, putp, Env.get, Env.put, Env.vw, Env.rd, Env.tk, Env.tks, Env.free, Rs.fz, op2D, addD, subD, mulD, fdivD, modD, powD, cmpA, ordD, nlk_un, nlk_sh, nlk_ow, nlk_lk, isD, iopD, iaddD, inopD, iaddI, op1D, PR.rs, D.truth, D.len, ixD, ix, partD, cutD, revD, lenB, absB, intB, tupleB, listB, anyB, allB, isinstB, bltD, getB, mthD, mthTy, appendB, extendB, popB, mutD, mutTy, setD, D.key, DKey.ok, tyNames, D.tyName, tySub, lock, unlock, lkFree, seqD, puts, bindT, Tg.slots, wipeE, back, argsOf, lent, lentOk, Ar.pass, behind, dk_ss, dk_ii, dk_si, dk_is, bigLine, ownOk, mapOut, turnF, dictAt, lockVar, hide, unhide, bls, inD, D.isNon, List.lookup, ctx_call, io_row_of, io_kind_of, io_roles_of, io_gloss_of, io_senses_of_kind, io_is_such, io_such_ones, io_individual_of, io_is_reached, io_goes_on, io_true_of, io_true_in, io_answer_in, io_is_number, io_is_ascending, io_is_individual, io_is_pair, io_are_pairs, io_is_fact, io_are_facts, io_are_all_names, io_is_model, io_law_draws, io_law_next, io_law_pick, io_law_same, io_law_ground, io_law_of_kind, io_law_text_of, io_law_more_text, io_law_thing, io_law_more, io_law_filler, io_law_meaning, io_law_model, io_law_wider, io_law, *])
local macro_rules | `(tactic| walk_at "fs") => `(tactic| simp [WB_cons, WB_nil, WS_asg, WS_par, WS_aug, WS_augIx, WS_setIx, WS_ex, WS_ret, WS_retN, WS_brk, WS_cnt, WS_pas, WS_ite, iteQ_some, iteT_t, iteT_f, cont_nx, cont_rt, cont_bk, cont_ct, Lp_nx, Lp_ct, Lp_rt, Lp_bk, Lw_nx, Lw_ct, Lw_rt, Lw_bk, WT, Done_rt, Done_nx, giveD_sh, giveD_ow, giveD_pk, finsD, rg0, rg1, rg2, rg3, rg4, rg5, rg6, evS, evE, evEs, evO, evT, evI, evFs, Env.tkf, putp, Env.get, Env.put, Env.vw, Env.rd, Env.tk, Env.tks, Env.free, Rs.fz, op2D, addD, subD, mulD, fdivD, modD, powD, cmpA, ordD, nlk_un, nlk_sh, nlk_ow, nlk_lk, isD, iopD, iaddD, inopD, iaddI, op1D, PR.rs, D.truth, D.len, ixD, ix, partD, cutD, revD, lenB, absB, intB, tupleB, listB, anyB, allB, isinstB, bltD, getB, mthD, mthTy, appendB, extendB, popB, mutD, mutTy, tyNames, D.tyName, tySub, lock, unlock, lkFree, seqD, puts, bindT, Tg.slots, wipeE, back, argsOf, lent, lentOk, Ar.pass, behind, dk_ss, dk_ii, dk_si, dk_is, bigLine, ownOk, mapOut, turnF, dictAt, lockVar, hide, unhide, bls, inD, D.isNon, List.lookup, ctx_call, io_row_of, io_kind_of, io_roles_of, io_gloss_of, io_senses_of_kind, io_is_such, io_such_ones, io_individual_of, io_is_reached, io_goes_on, io_true_of, io_true_in, io_answer_in, io_is_number, io_is_ascending, io_is_individual, io_is_pair, io_are_pairs, io_is_fact, io_are_facts, io_are_all_names, io_is_model, io_law_draws, io_law_next, io_law_pick, io_law_same, io_law_ground, io_law_of_kind, io_law_text_of, io_law_more_text, io_law_thing, io_law_more, io_law_filler, io_law_meaning, io_law_model, io_law_wider, io_law, *])
theorem left_get (a b c : D) : kget (.s [108, 101, 102, 116]) [(kDraws, a), (kAt, b), (kLeft, c)] = some c := rfl
theorem left_put (a b c d : D) : kput (.s [108, 101, 102, 116]) d [(kDraws, a), (kAt, b), (kLeft, c)] = [(kDraws, a), (kAt, b), (kLeft, d)] := rfl
theorem thing_turn (N : Nat) {g : List Rw} (T' : Str → Option Fn) (i1 : (ctxOf T' G N).io "_law_next" = [true, false]) (i2 : (ctxOf T' G N).io "_law_more" = [true, false, false]) (i3 : (ctxOf T' G N).io "_law_more_text" = [false])
    (r : Nat) (ds : List Int) (i : Nat) (l : Int) (gd : D) (ms : List Mr) (hml : ms.length ≤ 100) (P : Mr → Prop) (s3 s4 j6 j7 : Sl) (h6 : j6.nlk = true) (h7 : j7.nlk = true) (t : Int)
    (hN : ∀ (i : Nat) (l m : Int), 0 < m → Fi.run T' G N "_law_next" [(true, WL ds i l), (false, .int m)] = some (.sh (.int (nxt ds i m)), [.ow (WL ds (i + 1) l), .sh (.int m)]))
    (hM : ∀ r' : Nat, r = r' + 1 → ∀ (i : Nat) (l : Int), ∃ (x : Mr) (i' : Nat) (l' : Int), P x ∧ Fi.run T' G N "_law_more" [(true, WL ds i l), (false, gd), (false, .int r')] = some (.sh (mrD' x), [.ow (WL ds i' l'), .sh gd, .sh (.int r')]))
    (hX : ∀ x : Mr, P x → Fi.run T' G N "_law_more_text" [(false, mrD' x)] = some (.sh (.str (txM x)), [.sh (mrD' x)])) (Q : Out → Prop)
    (fin : ∀ (i' : Nat) (l' : Int) (ms' : List Mr) (j6 j7 : Sl), j6.nlk = true → j7.nlk = true → (ms' = ms ∨ ∃ x, P x ∧ 0 < r ∧ ms' = putM ms x) → Q (.nx ⟨[.ow (WL ds i' l'), .sh gd, .sh (.int r), s3, s4, .ow (.dct false (ms'.map kvM)), j6, j7, .un, .un, .un], [0]⟩)) :
    WT (ctxOf T' G N) (.nm 6) b1_law_thing (.int t) ⟨[.ow (WL ds i l), .sh gd, .sh (.int r), s3, s4, .ow (.dct false (ms.map kvM)), j6, j7, .un, .un, .un], [0]⟩ Q := by
  have he := eqv_int
  have g1 := left_get
  have g2 := left_put
  have fin0 : ∀ i', Q (.nx ⟨[.ow (WL ds i' l), .sh gd, .sh (.int r), s3, s4, .ow (.dct false (ms.map kvM)), .sh (.int t), j7, .un, .un, .un], [0]⟩) := fun i' => fin i' l ms (.sh (.int t)) j7 rfl h7 (.inl rfl)
  unfold b1_law_thing
  cases hr : r with
  | zero =>
    have q := fin0 i
    rw [hr] at q
    clear hN hM hX fin fin0
    generalize ms.map kvM = M at *
    walk_at "fi"
    exact q
  | succ r' =>
    obtain ⟨x, i2', l2, hx, hx2⟩ := hM r' hr (i + 1) (l - 3)
    have hx3 := hX x hx
    have hp := kput_kvM ms x
    have q1 := fin0 i
    have q2 := fin0 (i + 1)
    have q3 := fin i2' l2 (putM ms x) (.sh (.int t)) (.sh (mrD' x)) rfl rfl (.inr ⟨x, hx, by omega, rfl⟩)
    rw [← hr]
    have r1 : (0 : Int) < (r : Int) := by omega
    have r2 : (r : Int) - 1 = (r' : Int) := by omega
    have hml' : ms.length < 16777216 := by omega
    clear hM hX fin fin0 hr
    generalize hR : (r : Int) = ri at *
    generalize hR' : (r' : Int) = ri' at *
    clear hR hR'
    by_cases hl : 2 < l
    · by_cases h0 : nxt ds i 4 = 0
      · unfold WL at *
        generalize (putM ms x).map kvM = M2 at *
        generalize hMM : ms.map kvM = M at *
        have hml2 : M.length < 16777216 := by rw [← hMM]; simpa using hml'
        clear hMM
        generalize mrD' x = xd at *
        generalize txM x = tx at *
        simp only [Int.natCast_add, Int.cast_ofNat_Int] at hN hx2 q2
        walk_at "fi"
      · unfold WL at *
        simp only [Int.natCast_add, Int.cast_ofNat_Int] at hN q2
        generalize ms.map kvM = M at *
        clear hx2 hx3 q3 hp
        walk_at "fi"
    · unfold WL at *
      generalize ms.map kvM = M at *
      clear hx2 hx3 q3 hp hN
      walk_at "fi"
theorem cmp_sorted (C : Fi.Ctx) (w gd s2 s3 s4 j6 j7 s8 : Sl) (ms : List Mr) (hn : (ms.map txM).Nodup) (hml : ms.length ≤ 100) (us : List Txt) (h1 : sortC ((ms.map txM).map .str) = some (.fr (.lst (us.map .str)))) (h2 : us.Perm (ms.map txM)) :
    ∃ ms' : List Mr, ms'.map txM = us ∧ (∀ m ∈ ms', m ∈ ms) ∧ evE C k1_law_thing ⟨[w, gd, s2, s3, s4, .ow (.dct false (ms.map kvM)), j6, j7, s8, .un, .un], [0]⟩ = some (.ow (.lst (ms'.map mrD')), ⟨[w, gd, s2, s3, s4, .ow (.dct false (ms.map kvM)), j6, j7, s8, .un, .un], [0]⟩) := by
  have hs : sortB [.dct false (ms.map kvM)] = some (.fr (.lst (us.map .str))) := by
    show (sKeys false (ms.map kvM)).bind sortC = _
    rw [sKeys_kvM, Option.bind_some, h1]
  have hev : evI C (.seq (.blt .sorted (.cons (.var 5) .nil))) ⟨[w, gd, s2, s3, s4, .ow (.dct false (ms.map kvM)), j6, j7, s8, .un, .un], [0]⟩ = some (us.map D.str, none, ⟨[w, gd, s2, s3, s4, .ow (.dct false (ms.map kvM)), j6, j7, s8, .un, .un], [0]⟩) := by
    generalize ms.map kvM = M at *
    walk_at "fi"
  have step : ∀ x ∈ us, ∀ E2, (E2 = ⟨[w, gd, s2, s3, s4, .ow (.dct false (ms.map kvM)), j6, j7, s8, .un, .un], [0]⟩) → ∃ (y : Mr) (E3 : Fi.Env), turnF (.nm 10) (evT C .nil) (evE C (.idx (.var 5) (.var 10))) [10] (.str x) E2 = some (some (mrD' y), E3) ∧ (E3 = ⟨[w, gd, s2, s3, s4, .ow (.dct false (ms.map kvM)), j6, j7, s8, .un, .un], [0]⟩) ∧ y ∈ ms ∧ txM y = x := by
    rintro x hx E2 rfl
    obtain ⟨y, hy, e⟩ := List.mem_map.mp (h2.mem_iff.mp hx)
    refine ⟨y, _, ?_, rfl, hy, e⟩
    have hk := kget_kvM ms y hy hn
    rw [e] at hk
    clear hev hs h1 h2
    generalize ms.map kvM = M at *
    generalize mrD' y = yd at *
    walk_at "fi"
  have key := cmp_rel (fun t : Txt => D.str t) mrD' (fun x y => y ∈ ms ∧ txM y = x) us (I := fun E' => E' = ⟨[w, gd, s2, s3, s4, .ow (.dct false (ms.map kvM)), j6, j7, s8, .un, .un], [0]⟩) hev rfl rfl step (by have := h2.length_eq; simp at this; unfold bigLine; omega)
  obtain ⟨ms', E3, k1, rfl, k3⟩ := key
  refine ⟨ms', ?_, ?_, k1⟩
  · clear hev step k1 hs h1 h2 hn
    induction k3 with
    | nil => rfl
    | cons h _ ih => rw [List.map_cons, ih, h.2]
  · intro m hm
    obtain ⟨_, _, h, _⟩ := k3.mem m hm
    exact h
end K56
end

section
set_option maxRecDepth 100000
set_option maxHeartbeats 4000000
namespace K56
open PySem L2 Fi
local macro_rules | `(tactic| walk_at "fi") => `(tactic| simp [WB_cons, WB_nil, WS_asg, WS_par, WS_aug, WS_augIx, WS_setIx, WS_ex, WS_ret, WS_retN, WS_brk, WS_cnt, WS_pas, WS_ite, iteQ_some, iteT_t, iteT_f, cont_nx, cont_rt, cont_bk, cont_ct, Lp_nx, Lp_ct, Lp_rt, Lp_bk, Lw_nx, Lw_ct, Lw_rt, Lw_bk, WT, Done_rt, Done_nx, giveD_sh, giveD_ow, giveD_pk, finsD, rg0, rg1, rg2, rg3, rg4, rg5, rg6, evS, evE, evEs, evO, evT, evI, evFs, Env.tkf, putp, Env.get, Env.put, Env.vw, Env.rd, Env.tk, Env.tks, Env.free, Rs.fz, op2D, addD, subD, mulD, fdivD, modD, powD, cmpA, ordD, nlk_un, nlk_sh, nlk_ow, nlk_lk, isD, iopD, iaddD, inopD, iaddI, op1D, PR.rs, D.truth, D.len, ixD, ix, partD, cutD, revD, lenB, absB, intB, tupleB, listB, anyB, allB, isinstB, bltD, getB, mthD, mthTy, appendB, extendB, popB, mutD, mutTy, setD, D.key, DKey.ok, tyNames, D.tyName, tySub, lock, unlock, lkFree, seqD, puts, bindT, Tg.slots, wipeE, back, argsOf, lent, lentOk, Ar.pass, behind, dk_ss, dk_ii, dk_si, dk_is, bigLine, ownOk, mapOut, turnF, dictAt, lockVar, hide, unhide, bls, inD, D.isNon, List.lookup, ctx_call, io_row_of, io_kind_of, io_roles_of, io_gloss_of, io_senses_of_kind, io_is_such, io_such_ones, io_individual_of, io_is_reached, io_goes_on, io_true_of, io_true_in, io_answer_in, io_is_number, io_is_ascending, io_is_individual, io_is_pair, io_are_pairs, io_is_fact, io_are_facts, io_are_all_names, io_is_model, io_law_draws, io_law_next, io_law_pick, io_law_same, io_law_ground, io_law_of_kind, io_law_text_of, io_law_more_text, io_law_thing, io_law_more, io_law_filler, io_law_meaning, io_law_model, io_law_wider, io_law, *])
local macro_rules | `(tactic| walk_at "fs") => `(tactic| simp [WB_cons, WB_nil, WS_asg, WS_par, WS_aug, WS_augIx, WS_setIx, WS_ex, WS_ret, WS_retN, WS_brk, WS_cnt, WS_pas, WS_ite, iteQ_some, iteT_t, iteT_f, cont_nx, cont_rt, cont_bk, cont_ct, Lp_nx, Lp_ct, Lp_rt, Lp_bk, Lw_nx, Lw_ct, Lw_rt, Lw_bk, WT, Done_rt, Done_nx, giveD_sh, giveD_ow, giveD_pk, finsD, rg0, rg1, rg2, rg3, rg4, rg5, rg6, evS, evE, evEs, evO, evT, evI, evFs, Env.tkf, putp, Env.get, Env.put, Env.vw, Env.rd, Env.tk, Env.tks, Env.free, Rs.fz, op2D, addD, subD, mulD, fdivD, modD, powD, cmpA, ordD, nlk_un, nlk_sh, nlk_ow, nlk_lk, isD, iopD, iaddD, inopD, iaddI, op1D, PR.rs, D.truth, D.len, ixD, ix, partD, cutD, revD, lenB, absB, intB, tupleB, listB, anyB, allB, isinstB, bltD, getB, mthD, mthTy, appendB, extendB, popB, mutD, mutTy, tyNames, D.tyName, tySub, lock, unlock, lkFree, seqD, puts, bindT, Tg.slots, wipeE, back, argsOf, lent, lentOk, Ar.pass, behind, dk_ss, dk_ii, dk_si, dk_is, bigLine, ownOk, mapOut, turnF, dictAt, lockVar, hide, unhide, bls, inD, D.isNon, List.lookup, ctx_call, io_row_of, io_kind_of, io_roles_of, io_gloss_of, io_senses_of_kind, io_is_such, io_such_ones, io_individual_of, io_is_reached, io_goes_on, io_true_of, io_true_in, io_answer_in, io_is_number, io_is_ascending, io_is_individual, io_is_pair, io_are_pairs, io_is_fact, io_are_facts, io_are_all_names, io_is_model, io_law_draws, io_law_next, io_law_pick, io_law_same, io_law_ground, io_law_of_kind, io_law_text_of, io_law_more_text, io_law_thing, io_law_more, io_law_filler, io_law_meaning, io_law_model, io_law_wider, io_law, *])
theorem Dr_thing {g : List Rw} {r : Nat} {s num fix : Txt} {qs : List Txt} {ms : List Mr} (h1 : s ∈ kindL g [[116, 104, 105, 110, 103], [103, 108, 111, 115, 115]]) (h2 : num ∈ [[111, 110, 101], [109, 97, 110, 121]]) (h3 : fix ∈ [[116, 104, 105, 115], [115, 111, 109, 101], [101, 97, 99, 104], [110, 111]]) (h4 : qs.length ≤ 20) (h5 : ∀ q ∈ qs, q ∈ kindL g [[113, 117, 97, 108, 105, 116, 121]]) (h6 : qs.Pairwise (· < ·))
    (h7 : ms.length ≤ 2) (h8 : (ms.map txM).Pairwise (· < ·)) (h9 : ∀ mr ∈ ms, ∃ r', r = r' + 1 ∧ DrM g (Dr g r') mr) : Dr g r (.thing s num fix qs ms) := by
  cases r with
  | zero =>
    refine ⟨h1, h2, h3, h4, h5, h6, ?_⟩
    cases ms with
    | nil => rfl
    | cons m ms => obtain ⟨r', e, _⟩ := h9 m (by simp); omega
  | succ r =>
    refine ⟨h1, h2, h3, h4, h5, h6, h7, h8, fun mr hm => ?_⟩
    obtain ⟨r', e, h⟩ := h9 mr hm
    have : r' = r := by omega
    rw [← this]; exact h
theorem draws_thing {g : List Rw} (hg : GrOk g) (r N : Nat) (hr : r ≤ 2) (hN6 : 6 ≤ N)
    (hm : ∀ r', r = r' + 1 → ∀ (k : Nat) (ds : List Int) (i : Nat) (l : Int), ∃ (x : Mr) (i' : Nat) (l' : Int), DrM g (Dr g r') x ∧ Fi.run T G (N + k) "_law_more" [(true, WL ds i l), (false, gD g), (false, .int r')] = some (.sh (mrD' x), [.ow (WL ds i' l'), .sh (gD g), .sh (.int r')])) :
    Draws g r (fun x => Dr g r x ∧ x.isThing = true) (N + 1) "_law_thing" := by
  intro k ds i l
  rw [show N + 1 + k = N + k + 1 by omega]
  have key : ∃ rr ss, Fi.run T G (N + k + 1) "_law_thing" [(true, WL ds i l), (false, gD g), (false, .int r)] = some (rr, ss) ∧ ∃ (x : Fil) (i' : Nat) (l' : Int), (Dr g r x ∧ x.isThing = true) ∧ rr = .sh (filD x) ∧ ss = [.ow (WL ds i' l'), .sh (gD g), .sh (.int r)] := by
    have hN : ∀ (i : Nat) (l m : Int), 0 < m → Fi.run T G (N + k) "_law_next" [(true, WL ds i l), (false, .int m)] = some (.sh (.int (nxt ds i m)), [.ow (WL ds (i + 1) l), .sh (.int m)]) := fun i l m hm => by
      rw [show N + k = N + k - 1 + 1 by omega]; exact next_WL _ ds i l m hm
    have hK1 := run_kindL (N + k - 1) hg [[116, 104, 105, 110, 103], [103, 108, 111, 115, 115]]
    have hK2 := run_kindL (N + k - 1) hg [[113, 117, 97, 108, 105, 116, 121]]
    rw [show N + k - 1 + 1 = N + k by omega] at hK1 hK2
    simp only [List.map_cons, List.map_nil] at hK1 hK2
    obtain ⟨ys, i1', hys, c2⟩ := sub_quals (N + k) hg T (io_law_next _) (io_law_of_kind _) ds i l (gD g) (kindL g [[113, 117, 97, 108, 105, 116, 121]]) (len_kindL hg _) (.sh (.int r)) (.ow (.lst ((kindL g [[116, 104, 105, 110, 103], [103, 108, 111, 115, 115]]).map .str))) hN hK2
    have hcs := (cut_sub ys none (some l)).trans hys
    obtain ⟨qs, hs1, hs2, hs3⟩ := sort_txt (cut ys none (some l)) ((nodup_kindL hg _).sublist hcs)
    rw [← cut_map] at hs1
    have hql : qs.length ≤ 20 := by rw [hs2.length_eq]; exact Nat.le_trans hcs.length_le (len_kindL hg _)
    have hqk : ∀ q ∈ qs, q ∈ kindL g [[113, 117, 97, 108, 105, 116, 121]] := fun q hq => hcs.subset (hs2.mem_iff.mp hq)
    have sb : ∀ xs, sortB [.lst xs] = sortC xs := fun _ => rfl
    have g1 := left_get
    have g2 := left_put
    have he := eqv_int
    have i1 := io_law_next
    have i2 := io_law_of_kind
    have hMT : ∀ r', r = r' + 1 → ∀ x, DrM g (Dr g r') x → Fi.run T G (N + k) "_law_more_text" [(false, mrD' x)] = some (.sh (.str (txM x)), [.sh (mrD' x)]) := fun r' e x hx => run_moreT hg r' (by omega) x hx (N + k) (by omega)
    refine run_wb (fn := f_law_thing) (E0 := ⟨[.ow (WL ds i l), .sh (gD g), .sh (.int r), .un, .un, .un, .un, .un, .un, .un, .un], [0]⟩) rfl rfl rfl ?_
    show WB _ c_law_thing _ (Done 3 _)
    unfold c_law_thing
    refine wb_step (E1 := ⟨[.ow (WL ds i l), .sh (gD g), .sh (.int r), .ow (.lst ((kindL g [[116, 104, 105, 110, 103], [103, 108, 111, 115, 115]]).map .str)), .un, .un, .un, .un, .un, .un, .un], [0]⟩) ?_ ?_
    · clear hm hMT hN hK2 c2 hs1 sb
      generalize gD g = gd at *
      generalize T = T' at *
      walk_at "fi"
    refine wb_step (E1 := ⟨[.ow (WL ds i1' l), .sh (gD g), .sh (.int r), .ow (.lst ((kindL g [[116, 104, 105, 110, 103], [103, 108, 111, 115, 115]]).map .str)), .sh (.tup (qs.map .str)), .un, .un, .un, .un, .un, .un], [0]⟩) ?_ ?_
    · clear hm hMT hN hK2 hK1
      generalize k2_law_thing = kk at *
      generalize gD g = gd at *
      generalize T = T' at *
      unfold WL at *
      walk_at "fi"
    refine wb_step (E1 := ⟨[.ow (WL ds i1' (l - qs.length)), .sh (gD g), .sh (.int r), .ow (.lst ((kindL g [[116, 104, 105, 110, 103], [103, 108, 111, 115, 115]]).map .str)), .sh (.tup (qs.map .str)), .un, .un, .un, .un, .un, .un], [0]⟩) ?_ ?_
    · clear hm hMT hN hK2 hK1 c2 hs1
      generalize gD g = gd at *
      generalize T = T' at *
      unfold WL at *
      walk_at "fi"
    refine wb_step (E1 := ⟨[.ow (WL ds i1' (l - qs.length)), .sh (gD g), .sh (.int r), .ow (.lst ((kindL g [[116, 104, 105, 110, 103], [103, 108, 111, 115, 115]]).map .str)), .sh (.tup (qs.map .str)), .ow (.dct false []), .un, .un, .un, .un, .un], [0]⟩) ?_ ?_
    · clear hm hMT hN hK2 hK1 c2 hs1
      generalize gD g = gd at *
      generalize T = T' at *
      walk_at "fi"
    clear c2 hs1 sb hK1 hK2
    rw [WB_cons]
    refine ws_for (fun k : Nat => D.int k) (List.range 2) (l := none) (E1 := ⟨[.ow (WL ds i1' (l - qs.length)), .sh (gD g), .sh (.int r), .ow (.lst ((kindL g [[116, 104, 105, 110, 103], [103, 108, 111, 115, 115]]).map .str)), .sh (.tup (qs.map .str)), .ow (.dct false []), .un, .un, .un, .un, .un], [0]⟩)
      (I := fun pre E' => ∃ (i : Nat) (l : Int) (ms : List Mr) (j6 j7 : Sl), E' = ⟨[.ow (WL ds i l), .sh (gD g), .sh (.int r), .ow (.lst ((kindL g [[116, 104, 105, 110, 103], [103, 108, 111, 115, 115]]).map .str)), .sh (.tup (qs.map .str)), .ow (.dct false (ms.map kvM)), j6, j7, .un, .un, .un], [0]⟩ ∧ j6.nlk = true ∧ j7.nlk = true ∧ ms.length ≤ pre.length ∧ (ms.map txM).Nodup ∧ ∀ mr ∈ ms, ∃ r', r = r' + 1 ∧ DrM g (Dr g r') mr)
      ?_ ⟨i1', l - qs.length, [], .un, .un, rfl, rfl, rfl, by simp, by simp, by simp⟩ ?_ ?_
    · refine evI_rng (n := 2) ?_ (by omega)
      clear hm hMT hN
      generalize gD g = gd at *
      generalize T = T' at *
      walk_at "fi"
    · rintro pre t post E' hx ⟨i, l, ms, j6, j7, rfl, h6, h7, hl, hn, hd⟩
      have hpl : pre.length ≤ 2 := by have := congrArg List.length hx; simp at this; omega
      refine thing_turn (g := g) (N + k) T (io_law_next _) (io_law_more _) (io_law_more_text _) r ds i l (gD g) ms (by omega) (fun x => ∃ r', r = r' + 1 ∧ DrM g (Dr g r') x) _ _ j6 j7 h6 h7 t hN (fun r' e i l => ?_) (fun x ⟨r', e, hx⟩ => hMT r' e x hx) _ (fun i' l' ms' j6 j7 h6 h7 hor => ?_)
      · obtain ⟨x, i', l', h1, h2⟩ := hm r' e k ds i l
        exact ⟨x, i', l', ⟨r', e, h1⟩, h2⟩
      · rw [Lp_nx]
        rcases hor with rfl | ⟨x, hx, _, rfl⟩
        · exact ⟨i', l', ms', j6, j7, rfl, h6, h7, by simp; omega, hn, hd⟩
        · refine ⟨i', l', putM ms x, j6, j7, rfl, h6, h7, ?_, putM_nodup hn, fun m hm => ?_⟩
          · have := putM_len ms x; simp; omega
          · rcases putM_mem hm with h | rfl
            · exact hd m h
            · exact hx
    · rintro E' ⟨i, l, ms, j6, j7, rfl, h6, h7, hl, hn, hd⟩
      rw [show ∀ X, unlock X none = X from fun _ => rfl, cont_nx]
      have hml : ms.length ≤ 2 := by simpa using hl
      obtain ⟨s, hs, p1, p2, p3, p4⟩ := pick_of (kindL g [[116, 104, 105, 110, 103], [103, 108, 111, 115, 115]]) (List.ne_nil_of_mem (mem_kindL.mpr ⟨_, hg.dog, by simp [rThing], rfl⟩)) ds i
      obtain ⟨us, u1, u2, u3⟩ := sort_txt (ms.map txM) hn
      obtain ⟨ms', m1, m2, c1⟩ := cmp_sorted (ctxOf T G (N + k)) (.ow (WL ds (i + 3) l)) (.sh (gD g)) (.sh (.int r)) (.ow (.lst ((kindL g [[116, 104, 105, 110, 103], [103, 108, 111, 115, 115]]).map .str))) (.sh (.tup (qs.map .str))) j6 j7 (.sh (.str s)) ms hn (by omega) us u1 u2
      obtain ⟨nu, hnu, n1⟩ := pick_two (nxt ds (i + 1) 2) (nxt_two ds (i + 1)) [111, 110, 101] [109, 97, 110, 121]
      obtain ⟨fx, hfx, f1⟩ := pick_four (nxt ds (i + 2) 4) (nxt_four ds (i + 2)) [116, 104, 105, 115] [115, 111, 109, 101] [101, 97, 99, 104] [110, 111]
      have hml' : ms'.length ≤ 2 := by
        have e1 : ms'.length = us.length := by rw [← m1, List.length_map]
        have e2 := u2.length_eq
        rw [List.length_map] at e2
        omega
      have good : Dr g r (.thing s nu fx qs ms') := Dr_thing hs hnu hfx hql hqk hs3 hml' (by rw [m1]; exact u3) fun mr hm => hd mr (m2 mr hm)
      have fin : ∃ (x : Fil) (i' : Nat) (l' : Int), (Dr g r x ∧ x.isThing = true) ∧ Rs.sh (filD (.thing s nu fx qs ms')) = .sh (filD x) ∧ [Sl.ow (WL ds (i + 3) l), .sh (gD g), .sh (.int r)] = [.ow (WL ds i' l'), .sh (gD g), .sh (.int r)] := ⟨_, i + 3, l, ⟨good, rfl⟩, rfl, rfl⟩
      rw [thing_D] at fin
      unfold tThing at fin
      have p5 : (kindL g [[116, 104, 105, 110, 103], [103, 108, 111, 115, 115]])[(nxt ds i (kindL g [[116, 104, 105, 110, 103], [103, 108, 111, 115, 115]]).length).toNat] = s := by rw [List.getElem?_eq_getElem p4] at p3; exact Option.some.inj p3
      have q1 : 0 < (kindL g [[116, 104, 105, 110, 103], [103, 108, 111, 115, 115]]).length := by omega
      have q2 : (0 : Int) < ((kindL g [[116, 104, 105, 110, 103], [103, 108, 111, 115, 115]]).length : Int) := by omega
      clear hm hMT hd hs hn u1 u2 m1 m2 good hnu hfx hl hqk hs3 hcs hys
      refine wb_step (E1 := ⟨[.ow (WL ds (i + 1) l), .sh (gD g), .sh (.int r), .ow (.lst ((kindL g [[116, 104, 105, 110, 103], [103, 108, 111, 115, 115]]).map .str)), .sh (.tup (qs.map .str)), .ow (.dct false (ms.map kvM)), j6, j7, .sh (.str s), .un, .un], [0]⟩) ?_ ?_
      · clear c1 fin p3 f1 n1
        generalize ms.map kvM = M at *
        generalize kindL g [[116, 104, 105, 110, 103], [103, 108, 111, 115, 115]] = L at *
        generalize gD g = gd at *
        generalize T = T' at *
        walk_at "fi"
      · clear p1 p2 p3 p4 p5 q1 q2
        generalize hP : (fun (rr : Rs) (ss : List Sl) => ∃ (x : Fil) (i' : Nat) (l' : Int), (Dr g r x ∧ x.isThing = true) ∧ rr = .sh (filD x) ∧ ss = [.ow (WL ds i' l'), .sh (gD g), .sh (.int r)]) = P
        have fin : P (.sh (.tup [.str [116, 104, 105, 110, 103], .str s, .str nu, .str fx, .tup (qs.map .str), .tup (ms'.map mrD')])) [.ow (WL ds (i + 3) l), .sh (gD g), .sh (.int r)] := by rw [← hP]; exact fin
        clear hP
        generalize k1_law_thing = kk at *
        generalize ms.map kvM = M at *
        generalize ms'.map mrD' = M2 at *
        generalize kindL g [[116, 104, 105, 110, 103], [103, 108, 111, 115, 115]] = L at *
        generalize gD g = gd at *
        generalize T = T' at *
        rcases n1 with ⟨n1, rfl⟩ | ⟨n1, rfl⟩ <;> rcases f1 with ⟨f1, rfl⟩ | ⟨f1, rfl⟩ | ⟨f1, rfl⟩ | ⟨f1, rfl⟩ <;> walk_at "fi"
  obtain ⟨rr, ss, h, x, i', l', h1, rfl, rfl⟩ := key
  exact ⟨x, i', l', h1, h⟩
/-- things and fillers of each depth are drawn -/
theorem draws_all {g : List Rw} (hg : GrOk g) : ∀ r, r ≤ 2 → Draws g r (fun x => Dr g r x ∧ x.isThing = true) (4 * r + 7) "_law_thing" ∧ Draws g r (Dr g r) (4 * r + 8) "_law_filler"
  | 0, h => by
    have h1 := draws_thing hg 0 6 (by omega) (by omega) (fun r' e => by omega)
    exact ⟨h1, draws_filler hg 0 6 fun k ds i l => let ⟨x, i', l', h, e⟩ := h1 k ds i l; ⟨x, i', l', h.1, e⟩⟩
  | r + 1, h => by
    have ih := (draws_all hg r (by omega)).2
    have h1 := draws_thing hg (r + 1) (4 * r + 10) h (by omega) (fun r' e k ds i l => by
      have : r' = r := by omega
      subst this
      have := draws_more hg r' (4 * r' + 7) ih (k + 1) ds i l
      rw [show 4 * r' + 7 + 2 + (k + 1) = 4 * r' + 10 + k by omega] at this
      exact this)
    exact ⟨h1, draws_filler hg (r + 1) (4 * r + 10) fun k ds i l => let ⟨x, i', l', h, e⟩ := h1 k ds i l; ⟨x, i', l', h.1, e⟩⟩
end K56
end

section
set_option maxRecDepth 100000
set_option maxHeartbeats 4000000
namespace K56
open PySem L2 Fi
local macro_rules | `(tactic| walk_at "fi") => `(tactic| simp [WB_cons, WB_nil, WS_asg, WS_par, WS_aug, WS_augIx, WS_setIx, WS_ex, WS_ret, WS_retN, WS_brk, WS_cnt, WS_pas, WS_ite, iteQ_some, iteT_t, iteT_f, cont_nx, cont_rt, cont_bk, cont_ct, Lp_nx, Lp_ct, Lp_rt, Lp_bk, Lw_nx, Lw_ct, Lw_rt, Lw_bk, WT, Done_rt, Done_nx, giveD_sh, giveD_ow, giveD_pk, finsD, rg0, rg1, rg2, rg3, rg4, rg5, rg6, evS, evE, evEs, evO, evT, evI, evFs, Env.tkf, putp, Env.get, Env.put, Env.vw, Env.rd, Env.tk, Env.tks, Env.free, Rs.fz, op2D, addD, subD, mulD, fdivD, modD, powD, cmpA, ordD, nlk_un, nlk_sh, nlk_ow, nlk_lk, isD, iopD, iaddD, inopD, iaddI, op1D, PR.rs, D.truth, D.len, ixD, ix, partD, cutD, revD, lenB, absB, intB, tupleB, listB, anyB, allB, isinstB, bltD, getB, mthD, mthTy, appendB, extendB, popB, mutD, mutTy, setD, D.key, DKey.ok, tyNames, D.tyName, tySub, lock, unlock, lkFree, seqD, puts, bindT, Tg.slots, wipeE, back, argsOf, lent, lentOk, Ar.pass, behind, dk_ss, dk_ii, dk_si, dk_is, bigLine, ownOk, mapOut, turnF, dictAt, lockVar, hide, unhide, bls, inD, D.isNon, List.lookup, ctx_call, io_row_of, io_kind_of, io_roles_of, io_gloss_of, io_senses_of_kind, io_is_such, io_such_ones, io_individual_of, io_is_reached, io_goes_on, io_true_of, io_true_in, io_answer_in, io_is_number, io_is_ascending, io_is_individual, io_is_pair, io_are_pairs, io_is_fact, io_are_facts, io_are_all_names, io_is_model, io_law_draws, io_law_next, io_law_pick, io_law_same, io_law_ground, io_law_of_kind, io_law_text_of, io_law_more_text, io_law_thing, io_law_more, io_law_filler, io_law_meaning, io_law_model, io_law_wider, io_law, *])
local macro_rules | `(tactic| walk_at "fs") => `(tactic| simp [WB_cons, WB_nil, WS_asg, WS_par, WS_aug, WS_augIx, WS_setIx, WS_ex, WS_ret, WS_retN, WS_brk, WS_cnt, WS_pas, WS_ite, iteQ_some, iteT_t, iteT_f, cont_nx, cont_rt, cont_bk, cont_ct, Lp_nx, Lp_ct, Lp_rt, Lp_bk, Lw_nx, Lw_ct, Lw_rt, Lw_bk, WT, Done_rt, Done_nx, giveD_sh, giveD_ow, giveD_pk, finsD, rg0, rg1, rg2, rg3, rg4, rg5, rg6, evS, evE, evEs, evO, evT, evI, evFs, Env.tkf, putp, Env.get, Env.put, Env.vw, Env.rd, Env.tk, Env.tks, Env.free, Rs.fz, op2D, addD, subD, mulD, fdivD, modD, powD, cmpA, ordD, nlk_un, nlk_sh, nlk_ow, nlk_lk, isD, iopD, iaddD, inopD, iaddI, op1D, PR.rs, D.truth, D.len, ixD, ix, partD, cutD, revD, lenB, absB, intB, tupleB, listB, anyB, allB, isinstB, bltD, getB, mthD, mthTy, appendB, extendB, popB, mutD, mutTy, tyNames, D.tyName, tySub, lock, unlock, lkFree, seqD, puts, bindT, Tg.slots, wipeE, back, argsOf, lent, lentOk, Ar.pass, behind, dk_ss, dk_ii, dk_si, dk_is, bigLine, ownOk, mapOut, turnF, dictAt, lockVar, hide, unhide, bls, inD, D.isNon, List.lookup, ctx_call, io_row_of, io_kind_of, io_roles_of, io_gloss_of, io_senses_of_kind, io_is_such, io_such_ones, io_individual_of, io_is_reached, io_goes_on, io_true_of, io_true_in, io_answer_in, io_is_number, io_is_ascending, io_is_individual, io_is_pair, io_are_pairs, io_is_fact, io_are_facts, io_are_all_names, io_is_model, io_law_draws, io_law_next, io_law_pick, io_law_same, io_law_ground, io_law_of_kind, io_law_text_of, io_law_more_text, io_law_thing, io_law_more, io_law_filler, io_law_meaning, io_law_model, io_law_wider, io_law, *])
/-- a drawn meaning -/
def DrC (g : List Rw) (r : Nat) (c : Cl) : Prop := ∃ (rs : List Txt) (fs0 : List Fil), rDo c.2.2.2.1 rs ∈ g ∧ 1 ≤ rs.length ∧ rs.length ≤ 3 ∧ fs0.length = rs.length ∧ (∀ f ∈ fs0, Dr g r f) ∧ c.2.2.1 ∈ [[121, 101, 115], [110, 111]] ∧ c.2.1 ∈ times3 ∧
  ((c.1 ∈ [[116, 101, 108, 108], [97, 115, 107]] ∧ c.2.2.2.2 = fs0) ∨ (c.1 = [97, 115, 107] ∧ ∃ k, k < fs0.length ∧ c.2.2.2.2 = fs0.set k (.one [119, 104, 105, 99, 104])) ∨ (c.1 = [98, 105, 100] ∧ c.2.1 = [110, 111, 119] ∧ c.2.2.2.2 = fs0.set 0 (.one [104, 101, 97, 114, 101, 114])))
theorem cmp_rows4 (C : Fi.Ctx) (g : List Rw) (hg : g.length ≤ 20) (s0 s2 s3 s5 s6 s7 s8 : Sl) :
    evE C k2_law_meaning ⟨[s0, .sh (gD g), s2, s3, .un, s5, s6, s7, s8], [0]⟩ = some (.ow (.lst ((doL g).map rwD)), ⟨[s0, .sh (gD g), s2, s3, .un, s5, s6, s7, s8], [0]⟩) := by
  refine cmpV_filter rwD rwD (fun r => decide (r.k = [100, 111, 105, 110, 103])) g (d := gD g) (l := none) (E1 := ⟨[s0, .sh (gD g), s2, s3, .un, s5, s6, s7, s8], [0]⟩) rfl rfl rfl rfl (fun r _ => ?_) (by unfold bigLine; omega) rfl
  have h0 : (0 : Int) < (r.more.length : Int) + 1 + 1 := by omega
  unfold rwD
  generalize gD g = gd at *
  by_cases h : r.k = [100, 111, 105, 110, 103]
  · walk_at "fi"
  · walk_at "fi"
theorem cmp_fillM (N : Nat) (T' : Str → Option Fn) (i1 : (ctxOf T' G N).io "_law_filler" = [true, false, false]) (P : Fil → Prop) (w rd gd : D) (d : Txt) (rs : List Txt) (hrs : rs.length ≤ 3) (ds : List Int) (i : Nat) (l : Int) (s3 rows : Sl)
    (h : ∀ (i : Nat) (l : Int), ∃ (x : Fil) (i' : Nat) (l' : Int), P x ∧ Fi.run T' G N "_law_filler" [(true, WL ds i l), (false, gd), (false, rd)] = some (.sh (filD x), [.ow (WL ds i' l'), .sh gd, .sh rd])) :
    ∃ (fs : List Fil) (i' : Nat) (l' : Int), fs.length = rs.length ∧ (∀ f ∈ fs, P f) ∧ evE (ctxOf T' G N) k1_law_meaning ⟨[.ow (WL ds i l), .sh gd, .sh rd, s3, .sh (.tup [.str [100, 111, 105, 110, 103], .str d, .tup (rs.map .str)]), rows, .un, .un, .un], [0]⟩
      = some (.ow (.lst (fs.map filD)), ⟨[.ow (WL ds i' l'), .sh gd, .sh rd, s3, .sh (.tup [.str [100, 111, 105, 110, 103], .str d, .tup (rs.map .str)]), rows, .un, .un, .un], [0]⟩) := by
  have step : ∀ x ∈ rs, ∀ E2, (∃ (i : Nat) (l : Int), E2 = ⟨[.ow (WL ds i l), .sh gd, .sh rd, s3, .sh (.tup [.str [100, 111, 105, 110, 103], .str d, .tup (rs.map .str)]), rows, .un, .un, .un], [0]⟩) → ∃ (y : Fil) (E3 : Fi.Env), turnF (.nm 8) (evT (ctxOf T' G N) .nil) (evE (ctxOf T' G N) (.call "_law_filler" (.cons (.var 0) (.cons (.var 1) (.cons (.var 2) .nil))))) [8] (.str x) E2 = some (some (filD y), E3) ∧ (∃ (i : Nat) (l : Int), E3 = ⟨[.ow (WL ds i l), .sh gd, .sh rd, s3, .sh (.tup [.str [100, 111, 105, 110, 103], .str d, .tup (rs.map .str)]), rows, .un, .un, .un], [0]⟩) ∧ P y := by
    rintro t ht E2 ⟨i, l, rfl⟩
    obtain ⟨x, i', l', hx, hr⟩ := h i l
    refine ⟨x, _, ?_, ⟨i', l', rfl⟩, hx⟩
    clear h
    generalize filD x = xd at *
    walk_at "fi"
  have hev : evI (ctxOf T' G N) (.seq (.idx (.var 4) (.con (.int 2)))) ⟨[.ow (WL ds i l), .sh gd, .sh rd, s3, .sh (.tup [.str [100, 111, 105, 110, 103], .str d, .tup (rs.map .str)]), rows, .un, .un, .un], [0]⟩ = some (rs.map D.str, none, ⟨[.ow (WL ds i l), .sh gd, .sh rd, s3, .sh (.tup [.str [100, 111, 105, 110, 103], .str d, .tup (rs.map .str)]), rows, .un, .un, .un], [0]⟩) := by
    clear h step
    walk_at "fi"
  have key := cmp_rel (fun t : Txt => D.str t) filD (fun _ f => P f) rs (I := fun E' => ∃ (i : Nat) (l : Int), E' = ⟨[.ow (WL ds i l), .sh gd, .sh rd, s3, .sh (.tup [.str [100, 111, 105, 110, 103], .str d, .tup (rs.map .str)]), rows, .un, .un, .un], [0]⟩) hev rfl ⟨i, l, rfl⟩ step (by unfold bigLine; omega)
  obtain ⟨fs, E3, k1, ⟨i', l', rfl⟩, k3⟩ := key
  exact ⟨fs, i', l', k3.length, fun f hf => (k3.mem f hf).elim fun _ z => z.2, k1⟩
theorem draws_meaning {g : List Rw} (hg : GrOk g) (r N : Nat) (h : Draws g r (Dr g r) (N + 1) "_law_filler") (k : Nat) (ds : List Int) (i : Nat) (l : Int) :
    ∃ (c : Cl) (i' : Nat) (l' : Int), DrC g r c ∧ Fi.run T G (N + 2 + k) "_law_meaning" [(true, WL ds i l), (false, gD g), (false, .int r)] = some (.sh (clD c), [.ow (WL ds i' l'), .sh (gD g), .sh (.int r)]) := by
  obtain ⟨mo, hmo, o1⟩ := pick_four (nxt ds i 4) (nxt_four ds i) [116, 101, 108, 108] [116, 101, 108, 108] [97, 115, 107] [98, 105, 100]
  obtain ⟨ro, hro, p1, p2, p3, p4⟩ := pick_of (doL g) (doL_ne hg) ds (i + 1)
  obtain ⟨rs, e1, e2, e3, e4, e5⟩ := doL_row hg hro
  obtain ⟨fs, i', l', f1, f2, f3⟩ := cmp_fillM (N + 1 + k) T (io_law_filler _) (Dr g r) (.non) (.int r) (gD g) ro.s rs e4 ds (i + 2) 8 (.sh (.str mo)) (.ow (.lst ((doL g).map rwD))) (fun i l => h k ds i l)
  have e6 : rDo ro.s rs ∈ g := by rw [← e1]; exact e2
  rw [show N + 2 + k = N + 1 + k + 1 by omega]
  have hN : ∀ (i : Nat) (l m : Int), 0 < m → Fi.run T G (N + 1 + k) "_law_next" [(true, WL ds i l), (false, .int m)] = some (.sh (.int (nxt ds i m)), [.ow (WL ds (i + 1) l), .sh (.int m)]) := fun i l m hm => by
    rw [show N + 1 + k = N + k + 1 by omega]; exact next_WL _ ds i l m hm
  have i1 := io_law_next
  have he := eqv_int
  have hrow : rwD ro = .tup [.str [100, 111, 105, 110, 103], .str ro.s, .tup (rs.map .str)] := by rw [e1]; rfl
  have c1 := cmp_rows4 (ctxOf T G (N + 1 + k)) g hg.len (.ow (WL ds (i + 1) 8)) (.sh (.int r)) (.sh (.str mo)) .un .un .un .un
  have a3 : 0 < rs.length := by omega
  clear e1
  have hfl : fs.length = rs.length := f1
  have key : ∃ rr ss, Fi.run T G (N + 1 + k + 1) "_law_meaning" [(true, WL ds i l), (false, gD g), (false, .int r)] = some (rr, ss) ∧ ∃ (c : Cl) (i' : Nat) (l' : Int), DrC g r c ∧ rr = .sh (clD c) ∧ ss = [.ow (WL ds i' l'), .sh (gD g), .sh (.int r)] := by
    refine run_wb (fn := f_law_meaning) (E0 := ⟨[.ow (WL ds i l), .sh (gD g), .sh (.int r), .un, .un, .un, .un, .un, .un], [0]⟩) rfl rfl rfl ?_
    show WB _ c_law_meaning _ (Done 3 _)
    unfold c_law_meaning
    -- the end, from the fillers
    have fin : ∀ (fs2 : List Fil) (i2 : Nat) (t y : Txt), DrC g r (mo, t, y, ro.s, fs2) → ∃ (c : Cl) (i' : Nat) (l' : Int), DrC g r c ∧ Rs.sh (clD (mo, t, y, ro.s, fs2)) = .sh (clD c) ∧ [Sl.ow (WL ds i2 l'), .sh (gD g), .sh (.int r)] = [.ow (WL ds i' l'), .sh (gD g), .sh (.int r)] := fun fs2 i2 t y hd => ⟨_, i2, l', hd, rfl, rfl⟩
    have fin : ∀ (fs2 : List Fil) (i2 : Nat) (t y : Txt), DrC g r (mo, t, y, ro.s, fs2) → ∃ (c : Cl) (i' : Nat) (l2 : Int), DrC g r c ∧ Rs.sh (clD (mo, t, y, ro.s, fs2)) = .sh (clD c) ∧ [Sl.ow (WL ds i2 l'), .sh (gD g), .sh (.int r)] = [.ow (WL ds i' l2), .sh (gD g), .sh (.int r)] := fun fs2 i2 t y hd => ⟨_, i2, l', hd, rfl, rfl⟩
    generalize hP : (fun (rr : Rs) (ss : List Sl) => ∃ (c : Cl) (i' : Nat) (l' : Int), DrC g r c ∧ rr = .sh (clD c) ∧ ss = [.ow (WL ds i' l'), .sh (gD g), .sh (.int r)]) = P
    have fin : ∀ (fs2 : List Fil) (i2 : Nat) (t y : Txt), DrC g r (mo, t, y, ro.s, fs2) → P (.sh (.tup [.str [99, 108, 97, 117, 115, 101], .str mo, .str t, .str y, .str ro.s, .tup (fs2.map filD)])) [Sl.ow (WL ds i2 l'), .sh (gD g), .sh (.int r)] := fun fs2 i2 t y hd => by rw [← hP]; exact fin fs2 i2 t y hd
    clear hP
    have lp := left_put
    refine wb_step (E1 := ⟨[.ow (WL ds i 8), .sh (gD g), .sh (.int r), .un, .un, .un, .un, .un, .un], [0]⟩) ?_ ?_
    · clear f3 c1 hN h fin
      generalize gD g = gd at *
      generalize T = T' at *
      unfold WL
      walk_at "fi"
    refine wb_step (E1 := ⟨[.ow (WL ds (i + 1) 8), .sh (gD g), .sh (.int r), .sh (.str mo), .un, .un, .un, .un, .un], [0]⟩) ?_ ?_
    · clear f3 c1 h fin
      generalize gD g = gd at *
      generalize T = T' at *
      rcases o1 with ⟨o1, rfl⟩ | ⟨o1, rfl⟩ | ⟨o1, rfl⟩ | ⟨o1, rfl⟩ <;> walk_at "fi"
    refine wb_step (E1 := ⟨[.ow (WL ds (i + 1) 8), .sh (gD g), .sh (.int r), .sh (.str mo), .un, .ow (.lst ((doL g).map rwD)), .un, .un, .un], [0]⟩) ?_ ?_
    · clear f3 h fin
      generalize k2_law_meaning = kk at *
      generalize doL g = L at *
      generalize gD g = gd at *
      generalize T = T' at *
      walk_at "fi"
    refine wb_step (E1 := ⟨[.ow (WL ds (i + 2) 8), .sh (gD g), .sh (.int r), .sh (.str mo), .sh (.tup [.str [100, 111, 105, 110, 103], .str ro.s, .tup (rs.map .str)]), .ow (.lst ((doL g).map rwD)), .un, .un, .un], [0]⟩) ?_ ?_
    · clear f3 h fin c1
      generalize gD g = gd at *
      generalize doL g = DL at *
      generalize hM : DL.map rwD = DM at *
      have b1 : DM.length = DL.length := by rw [← hM]; simp
      have b2 : DM[(nxt ds (i + 1) DL.length).toNat]? = some (.tup [.str [100, 111, 105, 110, 103], .str ro.s, .tup (rs.map .str)]) := by rw [← hM, List.getElem?_map, p3]; exact congrArg some hrow
      have c1' : 0 ≤ nxt ds (i + 1) DM.length := by rw [b1]; exact p1
      have c2' : nxt ds (i + 1) DM.length < DM.length := by rw [b1]; exact p2
      have c3' : DM[(nxt ds (i + 1) DM.length).toNat]? = some (.tup [.str [100, 111, 105, 110, 103], .str ro.s, .tup (rs.map .str)]) := by rw [b1]; exact b2
      have c4' : (nxt ds (i + 1) DM.length).toNat < DM.length := by omega
      have c5' : DM[(nxt ds (i + 1) DM.length).toNat] = .tup [.str [100, 111, 105, 110, 103], .str ro.s, .tup (rs.map .str)] := by rw [List.getElem?_eq_getElem c4'] at c3'; exact Option.some.inj c3'
      have c6' : 0 < DM.length := by omega
      have c7' : (0 : Int) < (DM.length : Int) := by omega
      clear hM hrow p1 p2 p3 p4 b1 b2 c3'
      generalize T = T' at *
      walk_at "fi"
    refine wb_step (E1 := ⟨[.ow (WL ds i' l'), .sh (gD g), .sh (.int r), .sh (.str mo), .sh (.tup [.str [100, 111, 105, 110, 103], .str ro.s, .tup (rs.map .str)]), .ow (.lst ((doL g).map rwD)), .ow (.lst (fs.map filD)), .un, .un], [0]⟩) ?_ ?_
    · clear h fin c1
      generalize k1_law_meaning = kk at *
      generalize doL g = L at *
      generalize gD g = gd at *
      generalize fs.map filD = FM at *
      generalize T = T' at *
      walk_at "fi"
    -- behind the fillers: three ways
    have rest : ∀ (fs2 : List Fil) (i2 : Nat), (∀ t ∈ times3, ∀ y ∈ ([[121, 101, 115], [110, 111]] : List Txt), (mo = [98, 105, 100] → t = [110, 111, 119]) → DrC g r (mo, t, y, ro.s, (if mo = [98, 105, 100] then fs2.set 0 (.one [104, 101, 97, 114, 101, 114]) else fs2))) → fs2.length = rs.length →
        ∀ (rst : CB), rst = (.cons (.ite (.op2 .eq (.var 3) (.con (.str [98, 105, 100]))) (.cons (.setIx 6 (.con (.int 0)) (.tup (.cons (.con (.str [104, 101, 97, 114, 101, 114])) .nil))) .nil) .nil) (.cons (.asg (.nm 7) (.ifx (.op2 .eq (.var 3) (.con (.str [98, 105, 100]))) (.con (.str [110, 111, 119])) (.idx (.tup (.cons (.con (.str [112, 97, 115, 116])) (.cons (.con (.str [110, 111, 119])) (.cons (.con (.str [108, 97, 116, 101, 114])) .nil)))) (.call "_law_next" (.cons (.var 0) (.cons (.con (.int 3)) .nil)))))) (.cons (.ret (.tup (.cons (.con (.str [99, 108, 97, 117, 115, 101])) (.cons (.var 3) (.cons (.var 7) (.cons (.idx (.tup (.cons (.con (.str [121, 101, 115])) (.cons (.con (.str [110, 111])) .nil))) (.call "_law_next" (.cons (.var 0) (.cons (.con (.int 2)) .nil)))) (.cons (.idx (.var 4) (.con (.int 1))) (.cons (.blt .tuple (.cons (.var 6) .nil)) .nil)))))))) .nil))) →
        WB (ctxOf T G (N + 1 + k)) rst ⟨[.ow (WL ds i2 l'), .sh (gD g), .sh (.int r), .sh (.str mo), .sh (.tup [.str [100, 111, 105, 110, 103], .str ro.s, .tup (rs.map .str)]), .ow (.lst ((doL g).map rwD)), .ow (.lst (fs2.map filD)), .un, .un], [0]⟩ (Done 3 P) := by
      intro fs2 i2 hd hl rst er
      rw [er]
      have hz : 0 < fs2.length := by omega
      have hzi : (0 : Int) < (fs2.length : Int) := by omega
      clear h c1 f3
      by_cases hb : mo = [98, 105, 100]
      · obtain ⟨y, hy, y1⟩ := pick_two (nxt ds i2 2) (nxt_two ds i2) [121, 101, 115] [110, 111]
        have q := fin _ (i2 + 1) [110, 111, 119] y (hd [110, 111, 119] (by unfold times3; simp) y hy fun _ => rfl)
        rw [if_pos hb, List.map_set, show filD (.one [104, 101, 97, 114, 101, 114]) = .tup [.str [104, 101, 97, 114, 101, 114]] by unfold filD; rfl] at q
        clear fin hd
        generalize doL g = L at *
        generalize gD g = gd at *
        generalize T = T' at *
        subst hb
        rcases y1 with ⟨y1, rfl⟩ | ⟨y1, rfl⟩ <;> walk_at "fi"
      · obtain ⟨t, ht, t1⟩ := pick_three (nxt ds i2 3) (nxt_three ds i2) [112, 97, 115, 116] [110, 111, 119] [108, 97, 116, 101, 114]
        obtain ⟨y, hy, y1⟩ := pick_two (nxt ds (i2 + 1) 2) (nxt_two ds (i2 + 1)) [121, 101, 115] [110, 111]
        have q := fin _ (i2 + 2) t y (hd t ht y hy fun e => absurd e hb)
        rw [if_neg hb] at q
        clear fin hd
        generalize doL g = L at *
        generalize gD g = gd at *
        generalize T = T' at *
        rcases t1 with ⟨t1, rfl⟩ | ⟨t1, rfl⟩ | ⟨t1, rfl⟩ <;> rcases y1 with ⟨y1, rfl⟩ | ⟨y1, rfl⟩ <;> walk_at "fi"
    have plain : ∀ i2, WB (ctxOf T G (N + 1 + k)) _ ⟨[.ow (WL ds i2 l'), .sh (gD g), .sh (.int r), .sh (.str mo), .sh (.tup [.str [100, 111, 105, 110, 103], .str ro.s, .tup (rs.map .str)]), .ow (.lst ((doL g).map rwD)), .ow (.lst (fs.map filD)), .un, .un], [0]⟩ (Done 3 P) := fun i2 => rest fs i2 (fun t ht y hy ho => ⟨rs, fs, e6, e3, e4, f1, f2, hy, ht, by
      by_cases hb : mo = [98, 105, 100]
      · rw [if_pos hb]; exact .inr (.inr ⟨hb, ho hb, rfl⟩)
      · rw [if_neg hb]
        refine .inl ⟨?_, rfl⟩
        simp only [List.mem_cons, List.not_mem_nil, or_false] at hmo ⊢
        rcases hmo with h | h | h | h
        · exact .inl h
        · exact .inl h
        · exact .inr h
        · exact absurd h hb⟩) f1 _ rfl
    by_cases hask : mo = [97, 115, 107]
    · rcases nxt_two ds i' with hq | hq
      · obtain ⟨jr, hjr, j1, j2, j3, j4⟩ := pick_of fs (List.ne_nil_of_length_pos (by omega)) ds (i' + 1)
        refine wb_stepS (E1 := ⟨[.ow (WL ds (i' + 2) l'), .sh (gD g), .sh (.int r), .sh (.str mo), .sh (.tup [.str [100, 111, 105, 110, 103], .str ro.s, .tup (rs.map .str)]), .ow (.lst ((doL g).map rwD)), .ow (.lst ((fs.set (nxt ds (i' + 1) fs.length).toNat (.one [119, 104, 105, 99, 104])).map filD)), .un, .un], [0]⟩) ?_ ?_
        · have hset : (fs.set (nxt ds (i' + 1) fs.length).toNat (.one [119, 104, 105, 99, 104])).map filD = (fs.map filD).set (nxt ds (i' + 1) fs.length).toNat (.tup [.str [119, 104, 105, 99, 104]]) := by rw [List.map_set]; congr 1
          rw [hset]
          have z1 : 0 < fs.length := by omega
          have z2 : (0 : Int) < (fs.length : Int) := by omega
          clear rest plain fin h f3 c1 hset f1 hfl hmo
          subst hask
          generalize hFM : fs.map filD = FM at *
          have hl : FM.length = fs.length := by rw [← hFM]; simp
          have z3 : 0 < FM.length := by omega
          have z4 : (0 : Int) < (FM.length : Int) := by omega
          have z5 : 0 ≤ nxt ds (i' + 1) FM.length := by rw [hl]; exact j1
          have z6 : nxt ds (i' + 1) FM.length < FM.length := by rw [hl]; exact j2
          rw [← hl]
          clear hFM hl z1 z2 j1 j2 j3 j4
          generalize doL g = L at *
          generalize gD g = gd at *
          generalize T = T' at *
          walk_at "fi"
        · refine rest _ (i' + 2) (fun t ht y hy ho => ⟨rs, fs, e6, e3, e4, f1, f2, hy, ht, ?_⟩) (by rw [List.length_set]; exact f1) _ rfl
          have hb : ¬ mo = [98, 105, 100] := by rw [hask]; decide
          rw [if_neg hb]
          exact .inr (.inl ⟨hask, _, j4, rfl⟩)
      · refine wb_stepS (E1 := ⟨[.ow (WL ds (i' + 1) l'), .sh (gD g), .sh (.int r), .sh (.str mo), .sh (.tup [.str [100, 111, 105, 110, 103], .str ro.s, .tup (rs.map .str)]), .ow (.lst ((doL g).map rwD)), .ow (.lst (fs.map filD)), .un, .un], [0]⟩) ?_ (plain _)
        clear rest plain fin h f3 c1 hmo
        subst hask
        generalize fs.map filD = FM at *
        generalize doL g = L at *
        generalize gD g = gd at *
        generalize T = T' at *
        walk_at "fi"
    · refine wb_stepS (E1 := ⟨[.ow (WL ds i' l'), .sh (gD g), .sh (.int r), .sh (.str mo), .sh (.tup [.str [100, 111, 105, 110, 103], .str ro.s, .tup (rs.map .str)]), .ow (.lst ((doL g).map rwD)), .ow (.lst (fs.map filD)), .un, .un], [0]⟩) ?_ (plain _)
      clear rest plain fin h f3 c1 hmo
      generalize fs.map filD = FM at *
      generalize doL g = L at *
      generalize gD g = gd at *
      generalize T = T' at *
      walk_at "fi"
  obtain ⟨rr, ss, h, c, i2, l2, h1, rfl, rfl⟩ := key
  exact ⟨c, i2, l2, h1, h⟩
end K56
end

section
set_option maxRecDepth 100000
set_option maxHeartbeats 4000000
namespace K56
open PySem L2 Fi
local macro_rules | `(tactic| walk_at "fi") => `(tactic| simp [WB_cons, WB_nil, WS_asg, WS_par, WS_aug, WS_augIx, WS_setIx, WS_ex, WS_ret, WS_retN, WS_brk, WS_cnt, WS_pas, WS_ite, iteQ_some, iteT_t, iteT_f, cont_nx, cont_rt, cont_bk, cont_ct, Lp_nx, Lp_ct, Lp_rt, Lp_bk, Lw_nx, Lw_ct, Lw_rt, Lw_bk, WT, Done_rt, Done_nx, giveD_sh, giveD_ow, giveD_pk, finsD, rg0, rg1, rg2, rg3, rg4, rg5, rg6, evS, evE, evEs, evO, evT, evI, evFs, Env.tkf, putp, Env.get, Env.put, Env.vw, Env.rd, Env.tk, Env.tks, Env.free, Rs.fz, op2D, addD, subD, mulD, fdivD, modD, powD, cmpA, ordD, nlk_un, nlk_sh, nlk_ow, nlk_lk, isD, iopD, iaddD, inopD, iaddI, op1D, PR.rs, D.truth, D.len, ixD, ix, partD, cutD, revD, lenB, absB, intB, tupleB, listB, anyB, allB, isinstB, bltD, getB, mthD, mthTy, appendB, extendB, popB, mutD, mutTy, setD, D.key, DKey.ok, tyNames, D.tyName, tySub, lock, unlock, lkFree, seqD, puts, bindT, Tg.slots, wipeE, back, argsOf, lent, lentOk, Ar.pass, behind, dk_ss, dk_ii, dk_si, dk_is, bigLine, ownOk, mapOut, turnF, dictAt, lockVar, hide, unhide, bls, inD, D.isNon, List.lookup, ctx_call, io_row_of, io_kind_of, io_roles_of, io_gloss_of, io_senses_of_kind, io_is_such, io_such_ones, io_individual_of, io_is_reached, io_goes_on, io_true_of, io_true_in, io_answer_in, io_is_number, io_is_ascending, io_is_individual, io_is_pair, io_are_pairs, io_is_fact, io_are_facts, io_are_all_names, io_is_model, io_law_draws, io_law_next, io_law_pick, io_law_same, io_law_ground, io_law_of_kind, io_law_text_of, io_law_more_text, io_law_thing, io_law_more, io_law_filler, io_law_meaning, io_law_model, io_law_wider, io_law, *])
local macro_rules | `(tactic| walk_at "fs") => `(tactic| simp [WB_cons, WB_nil, WS_asg, WS_par, WS_aug, WS_augIx, WS_setIx, WS_ex, WS_ret, WS_retN, WS_brk, WS_cnt, WS_pas, WS_ite, iteQ_some, iteT_t, iteT_f, cont_nx, cont_rt, cont_bk, cont_ct, Lp_nx, Lp_ct, Lp_rt, Lp_bk, Lw_nx, Lw_ct, Lw_rt, Lw_bk, WT, Done_rt, Done_nx, giveD_sh, giveD_ow, giveD_pk, finsD, rg0, rg1, rg2, rg3, rg4, rg5, rg6, evS, evE, evEs, evO, evT, evI, evFs, Env.tkf, putp, Env.get, Env.put, Env.vw, Env.rd, Env.tk, Env.tks, Env.free, Rs.fz, op2D, addD, subD, mulD, fdivD, modD, powD, cmpA, ordD, nlk_un, nlk_sh, nlk_ow, nlk_lk, isD, iopD, iaddD, inopD, iaddI, op1D, PR.rs, D.truth, D.len, ixD, ix, partD, cutD, revD, lenB, absB, intB, tupleB, listB, anyB, allB, isinstB, bltD, getB, mthD, mthTy, appendB, extendB, popB, mutD, mutTy, tyNames, D.tyName, tySub, lock, unlock, lkFree, seqD, puts, bindT, Tg.slots, wipeE, back, argsOf, lent, lentOk, Ar.pass, behind, dk_ss, dk_ii, dk_si, dk_is, bigLine, ownOk, mapOut, turnF, dictAt, lockVar, hide, unhide, bls, inD, D.isNon, List.lookup, ctx_call, io_row_of, io_kind_of, io_roles_of, io_gloss_of, io_senses_of_kind, io_is_such, io_such_ones, io_individual_of, io_is_reached, io_goes_on, io_true_of, io_true_in, io_answer_in, io_is_number, io_is_ascending, io_is_individual, io_is_pair, io_are_pairs, io_is_fact, io_are_facts, io_are_all_names, io_is_model, io_law_draws, io_law_next, io_law_pick, io_law_same, io_law_ground, io_law_of_kind, io_law_text_of, io_law_more_text, io_law_thing, io_law_more, io_law_filler, io_law_meaning, io_law_model, io_law_wider, io_law, *])
/-! ### order -/
theorem asc_of {α : Type} (f : α → D) {R : α → α → Prop} (hR : ∀ a b, R a b → op2D .lt (f a) (f b) = some (.sc (.bl true))) : ∀ (xs : List α), xs.Pairwise R → Asc (xs.map f)
  | [], _ => fun k a b h1 _ => by simp at h1
  | [x], _ => fun k a b _ h2 => by simp at h2
  | x :: y :: xs, h => fun k a b h1 h2 => by
    rw [List.pairwise_cons] at h
    cases k with
    | zero =>
      simp at h1 h2
      rw [← h1, ← h2]
      exact hR x y (h.1 y (by simp))
    | succ k => exact asc_of f hR (y :: xs) h.2 k a b (by simpa using h1) (by simpa using h2)
def prLt (a b : Txt × Nat) : Prop := a.1 < b.1 ∨ (a.1 = b.1 ∧ a.2 < b.2)
theorem lt_pr (a b : Txt × Nat) (h : prLt a b) : op2D .lt (prD a) (prD b) = some (.sc (.bl true)) := by
  obtain ⟨s, x⟩ := a
  obtain ⟨t, y⟩ := b
  show ordD (fun x y => PySem.W.dataLt x y) (.tup [.str s, .int x]) (.tup [.str t, .int y]) = _
  unfold ordD
  simp only [D.py, D.pys, Option.map_some]
  have ha : PySem.W.alike (.tuple [.str ⟨s.toArray⟩, .int x]) (.tuple [.str ⟨t.toArray⟩, .int y]) = true := by simp [PySem.W.alike, PySem.W.alikeAll]
  have hd : min (PyData.depth (.tuple [.str ⟨s.toArray⟩, .int x])) (PyData.depth (.tuple [.str ⟨t.toArray⟩, .int y])) ≤ 64 := by simp [PyData.depth, PyData.depthAll]
  rw [if_pos ⟨ha, rfl, hd⟩]
  have hl : PySem.W.dataLt (.tuple [.str ⟨s.toArray⟩, .int x]) (.tuple [.str ⟨t.toArray⟩, .int y]) = true := by
    rw [PySem.W.dataLt_pair (by simp [PySem.W.alike]) (by simp [PySem.W.alike]), PySem.W.dataLt_str, PySem.W.dataLt_int]
    unfold PyData.eqv
    simp only
    unfold prLt at h
    simp only at h
    rcases h with h | ⟨h1, h2⟩
    · have hne : s ≠ t := by
        intro e
        rw [e] at h
        exact absurd h (List.lt_irrefl t)
      rw [if_neg (by simp [hne])]
      simpa using h
    · subst h1
      rw [if_pos (by simp), if_neg (by simp; omega)]
      simp
      omega
  rw [hl]
/-! ### facts -/
abbrev Fc := Txt × Txt × List Nat
def fkey (f : Fc) : List NestedKey := [.text ⟨f.1.toArray⟩, .text ⟨f.2.1.toArray⟩, .tup (f.2.2.map fun x : Nat => .num x)]
theorem nks_ints : ∀ xs : List Nat, D.nks (xs.map fun x : Nat => D.int x) = some (xs.map fun x : Nat => NestedKey.num x)
  | [] => by unfold D.nks; rfl
  | x :: xs => by rw [List.map_cons]; unfold D.nks; rw [nks_ints xs]; unfold D.nk; rfl
theorem depth_nums : ∀ xs : List Nat, NestedKey.depthAll (xs.map fun x : Nat => NestedKey.num x) ≤ 1
  | [] => by simp [NestedKey.depthAll]
  | x :: xs => by rw [List.map_cons]; unfold NestedKey.depthAll; have := depth_nums xs; simp [NestedKey.depth]; omega
theorem key_fc (f : Fc) : (fcD f).key = some (.t (fkey f)) := by
  unfold fcD D.key
  have h1 : D.nks [.str f.1, .str f.2.1, .tup (f.2.2.map fun x : Nat => D.int x)] = some (fkey f) := by
    unfold fkey
    simp [D.nks, D.nk, nks_ints]
  simp only [h1, Option.bind_some]
  have := depth_nums f.2.2
  rw [if_pos (by unfold fkey; simp [NestedKey.depthAll, NestedKey.depth]; omega)]
theorem d_fkey (f : Fc) : (DKey.t (fkey f)).d = fcD f := by
  have h : ∀ xs : List Nat, nkDs (xs.map fun x : Nat => NestedKey.num x) = xs.map fun x : Nat => D.int x := by
    intro xs
    induction xs with
    | nil => unfold nkDs; rfl
    | cons x xs ih => rw [List.map_cons]; unfold nkDs; rw [ih]; unfold nkD; rfl
  unfold DKey.d fkey fcD
  simp [nkDs, nkD, h]
theorem fkey_inj {f f' : Fc} (h : fkey f = fkey f') : f = f' := by
  have := d_fkey f
  rw [h, d_fkey f'] at this
  exact (fcD_inj this).symm
def kvF (f : Fc) : DKey × D := (.t (fkey f), .bl true)
/-- a dict of facts -/
def fdD (fs : List Fc) : D := .dct (!fs.isEmpty) (fs.map kvF)
def putF (fs : List Fc) (f : Fc) : List Fc := if f ∈ fs then fs else fs ++ [f]
theorem kput_F (fs : List Fc) (f : Fc) : kput (.t (fkey f)) (.bl true) (fs.map kvF) = (putF fs f).map kvF := by
  unfold kput putF
  have e : ((fs.map kvF).any fun kv => decide (kv.1 = DKey.t (fkey f))) = decide (f ∈ fs) := by
    rw [Bool.eq_iff_iff, List.any_eq_true, decide_eq_true_iff]
    constructor
    · rintro ⟨x, hx, he⟩
      rw [List.mem_map] at hx
      obtain ⟨y, hy, rfl⟩ := hx
      rw [decide_eq_true_eq] at he
      have : y = f := fkey_inj (by simpa [kvF] using he)
      rw [← this]; exact hy
    · intro h
      exact ⟨kvF f, List.mem_map_of_mem h, by simp [kvF]⟩
  rw [e]
  by_cases h : f ∈ fs
  · rw [if_pos (decide_eq_true h), if_pos h, List.map_map]
    refine List.map_congr_left fun x _ => ?_
    simp only [Function.comp]
    split
    · rename_i hx
      unfold kvF at hx ⊢
      simp only at hx ⊢
    · rfl
  · rw [if_neg (by simpa using h), if_neg h, List.map_append]
    rfl
theorem setD_F (fs : List Fc) (f : Fc) (h : fs.length < 16777216) : setD (fdD fs) (fcD f) (.bl true) = some (fdD (putF fs f)) := by
  unfold fdD setD
  simp only [key_fc, Option.bind_some]
  cases fs with
  | nil => rfl
  | cons x xs =>
    have h1 : (DKey.t (fkey f)).ok (!(x :: xs).isEmpty) = true := rfl
    have h2 : ((x :: xs).map kvF).length < bigLine := by rw [List.length_map]; exact h
    rw [if_pos (by rw [h1, decide_eq_true h2]; rfl), kput_F]
    have h3 : (!(putF (x :: xs) f).isEmpty) = (!(x :: xs).isEmpty) := by
      unfold putF
      split <;> rfl
    rw [h3]
theorem putF_mem {fs : List Fc} {f x : Fc} : x ∈ putF fs f ↔ x ∈ fs ∨ x = f := by
  unfold putF
  split
  · rename_i h
    exact ⟨.inl, fun h' => h'.elim id fun e => e ▸ h⟩
  · simp
theorem putF_len (fs : List Fc) (f : Fc) : (putF fs f).length ≤ fs.length + 1 := by unfold putF; split <;> simp
theorem putF_nodup {fs : List Fc} {f : Fc} (h : fs.Nodup) : (putF fs f).Nodup := by
  unfold putF
  split
  · exact h
  · rename_i hx
    rw [List.nodup_append]
    refine ⟨h, by simp, ?_⟩
    intro a ha b hb e
    simp only [List.mem_singleton] at hb
    exact hx (hb ▸ e ▸ ha)
theorem sKeys_F (fs : List Fc) : sKeys (!fs.isEmpty) (fs.map kvF) = some (fs.map fcD) := by
  have h : ∀ fs : List Fc, sKeys true (fs.map kvF) = some (fs.map fcD) := by
    intro fs
    induction fs with
    | nil => unfold sKeys; rfl
    | cons f fs ih =>
      rw [List.map_cons, List.map_cons]
      unfold kvF sKeys
      rw [show (fs.map fun f => (DKey.t (fkey f), D.bl true)) = fs.map kvF from rfl, ih, d_fkey]
      rfl
  cases fs with
  | nil => rfl
  | cons f fs => exact h (f :: fs)
theorem pys_ints : ∀ xs : List Nat, D.pys (xs.map fun x : Nat => D.int x) = some (xs.map fun x : Nat => PyData.int x)
  | [] => by unfold D.pys; rfl
  | x :: xs => by rw [List.map_cons]; unfold D.pys; rw [pys_ints xs]; unfold D.py; rfl
def fcP (f : Fc) : PyData := .tuple [.str ⟨f.1.toArray⟩, .str ⟨f.2.1.toArray⟩, .tuple (f.2.2.map fun x : Nat => PyData.int x)]
theorem py_fc (f : Fc) : (fcD f).py = some (fcP f) := by
  unfold fcD fcP
  simp [D.py, D.pys, pys_ints]
theorem pys_fc : ∀ fs : List Fc, D.pys (fs.map fcD) = some (fs.map fcP)
  | [] => by unfold D.pys; rfl
  | f :: fs => by rw [List.map_cons]; unfold D.pys; rw [pys_fc fs, py_fc]; rfl
theorem alike_nats : ∀ xs ys : List Nat, PySem.W.alikeAll (xs.map fun x : Nat => PyData.int x) (ys.map fun x : Nat => PyData.int x) = true
  | [], _ => by unfold PySem.W.alikeAll; rfl
  | _ :: _, [] => by rw [List.map_cons, List.map_nil]; unfold PySem.W.alikeAll; rfl
  | x :: xs, y :: ys => by rw [List.map_cons, List.map_cons]; unfold PySem.W.alikeAll; rw [alike_nats xs ys]; unfold PySem.W.alike; rfl
theorem depth_nats : ∀ xs : List Nat, PyData.depthAll (xs.map fun x : Nat => PyData.int x) = 0
  | [] => by simp [PyData.depthAll]
  | x :: xs => by rw [List.map_cons]; unfold PyData.depthAll; rw [depth_nats xs]; simp [PyData.depth]
theorem sortOk_fc (fs : List Fc) : sortOk (fs.map fcP) = true := by
  unfold sortOk
  simp only [Bool.and_eq_true, Bool.or_eq_true, List.all_eq_true, List.mem_map, decide_eq_true_eq]
  refine ⟨⟨?_, .inl ?_⟩, ?_⟩
  · rintro _ ⟨a, _, rfl⟩ _ ⟨b, _, rfl⟩
    unfold fcP
    simp [PySem.W.alike, PySem.W.alikeAll, alike_nats]
  · rintro _ ⟨a, _, rfl⟩; rfl
  · rintro _ ⟨a, _, rfl⟩
    unfold fcP
    simp [PyData.depth, PyData.depthAll, depth_nats]
/-- sorted facts -/
theorem sort_facts (fs : List Fc) (hn : fs.Nodup) : ∃ us : List Fc, sortB [fdD fs] = some (.fr (.lst (us.map fcD))) ∧ us.Perm fs ∧ Asc (us.map fcD) := by
  have e : (fs.mergeSort fun a b => leD (fcD a) (fcD b)).map fcD = (fs.map fcD).mergeSort leD := List.map_mergeSort fun _ _ _ _ => rfl
  refine ⟨fs.mergeSort fun a b => leD (fcD a) (fcD b), ?_, List.mergeSort_perm _ _, ?_⟩
  · show (sKeys (!fs.isEmpty) (fs.map kvF)).bind sortC = _
    rw [sKeys_F, Option.bind_some]
    unfold sortC
    rw [pys_fc, Option.bind_some, if_pos (sortOk_fc fs), e]
  · have h := sort_pair (pys_fc fs) (sortOk_fc fs) (pures_map fs fun f _ => pure_fc f) (by
      unfold List.Nodup at hn ⊢
      exact List.pairwise_map.mpr (hn.imp fun ne e => ne (fcD_inj e)))
    rw [e]
    have := asc_of (fun d : D => d) (R := fun a b => (∃ x y, a = .tup x ∧ b = .tup y) ∧ ordD (fun x y => PySem.W.dataLt x y) a b = some (.sc (.bl true))) (fun a b h => by
      obtain ⟨⟨x, y, rfl, rfl⟩, h⟩ := h
      exact h) ((fs.map fcD).mergeSort leD) (h.imp_of_mem fun {a b} ha hb hab => ⟨by
        have ha := (List.mergeSort_perm _ _).mem_iff.mp ha
        have hb := (List.mergeSort_perm _ _).mem_iff.mp hb
        rw [List.mem_map] at ha hb
        obtain ⟨x, _, rfl⟩ := ha
        obtain ⟨y, _, rfl⟩ := hb
        exact ⟨_, _, rfl, rfl⟩, hab⟩)
    rw [List.map_id'] at this
    exact this
end K56
end

section
set_option maxRecDepth 100000
set_option maxHeartbeats 4000000
namespace K56
open PySem L2 Fi
local macro_rules | `(tactic| walk_at "fi") => `(tactic| simp [WB_cons, WB_nil, WS_asg, WS_par, WS_aug, WS_augIx, WS_setIx, WS_ex, WS_ret, WS_retN, WS_brk, WS_cnt, WS_pas, WS_ite, iteQ_some, iteT_t, iteT_f, cont_nx, cont_rt, cont_bk, cont_ct, Lp_nx, Lp_ct, Lp_rt, Lp_bk, Lw_nx, Lw_ct, Lw_rt, Lw_bk, WT, Done_rt, Done_nx, giveD_sh, giveD_ow, giveD_pk, finsD, rg0, rg1, rg2, rg3, rg4, rg5, rg6, evS, evE, evEs, evO, evT, evI, evFs, Env.tkf, putp, Env.get, Env.put, Env.vw, Env.rd, Env.tk, Env.tks, Env.free, Rs.fz, op2D, addD, subD, mulD, fdivD, modD, powD, cmpA, ordD, nlk_un, nlk_sh, nlk_ow, nlk_lk, isD, iopD, iaddD, inopD, iaddI, op1D, PR.rs, D.truth, D.len, ixD, ix, partD, cutD, revD, lenB, absB, intB, tupleB, listB, anyB, allB, isinstB, bltD, getB, mthD, mthTy, appendB, extendB, popB, mutD, mutTy, setD, D.key, DKey.ok, tyNames, D.tyName, tySub, lock, unlock, lkFree, seqD, puts, bindT, Tg.slots, wipeE, back, argsOf, lent, lentOk, Ar.pass, behind, dk_ss, dk_ii, dk_si, dk_is, bigLine, ownOk, mapOut, turnF, dictAt, lockVar, hide, unhide, bls, inD, D.isNon, List.lookup, ctx_call, io_row_of, io_kind_of, io_roles_of, io_gloss_of, io_senses_of_kind, io_is_such, io_such_ones, io_individual_of, io_is_reached, io_goes_on, io_true_of, io_true_in, io_answer_in, io_is_number, io_is_ascending, io_is_individual, io_is_pair, io_are_pairs, io_is_fact, io_are_facts, io_are_all_names, io_is_model, io_law_draws, io_law_next, io_law_pick, io_law_same, io_law_ground, io_law_of_kind, io_law_text_of, io_law_more_text, io_law_thing, io_law_more, io_law_filler, io_law_meaning, io_law_model, io_law_wider, io_law, *])
local macro_rules | `(tactic| walk_at "fs") => `(tactic| simp [WB_cons, WB_nil, WS_asg, WS_par, WS_aug, WS_augIx, WS_setIx, WS_ex, WS_ret, WS_retN, WS_brk, WS_cnt, WS_pas, WS_ite, iteQ_some, iteT_t, iteT_f, cont_nx, cont_rt, cont_bk, cont_ct, Lp_nx, Lp_ct, Lp_rt, Lp_bk, Lw_nx, Lw_ct, Lw_rt, Lw_bk, WT, Done_rt, Done_nx, giveD_sh, giveD_ow, giveD_pk, finsD, rg0, rg1, rg2, rg3, rg4, rg5, rg6, evS, evE, evEs, evO, evT, evI, evFs, Env.tkf, putp, Env.get, Env.put, Env.vw, Env.rd, Env.tk, Env.tks, Env.free, Rs.fz, op2D, addD, subD, mulD, fdivD, modD, powD, cmpA, ordD, nlk_un, nlk_sh, nlk_ow, nlk_lk, isD, iopD, iaddD, inopD, iaddI, op1D, PR.rs, D.truth, D.len, ixD, ix, partD, cutD, revD, lenB, absB, intB, tupleB, listB, anyB, allB, isinstB, bltD, getB, mthD, mthTy, appendB, extendB, popB, mutD, mutTy, tyNames, D.tyName, tySub, lock, unlock, lkFree, seqD, puts, bindT, Tg.slots, wipeE, back, argsOf, lent, lentOk, Ar.pass, behind, dk_ss, dk_ii, dk_si, dk_is, bigLine, ownOk, mapOut, turnF, dictAt, lockVar, hide, unhide, bls, inD, D.isNon, List.lookup, ctx_call, io_row_of, io_kind_of, io_roles_of, io_gloss_of, io_senses_of_kind, io_is_such, io_such_ones, io_individual_of, io_is_reached, io_goes_on, io_true_of, io_true_in, io_answer_in, io_is_number, io_is_ascending, io_is_individual, io_is_pair, io_are_pairs, io_is_fact, io_are_facts, io_are_all_names, io_is_model, io_law_draws, io_law_next, io_law_pick, io_law_same, io_law_ground, io_law_of_kind, io_law_text_of, io_law_more_text, io_law_thing, io_law_more, io_law_filler, io_law_meaning, io_law_model, io_law_wider, io_law, *])
/-! ### models are drawn -/
def FcOk (g : List Rw) (many : Nat) (f : Fc) : Prop := f.1 ∈ times3 ∧ ∃ rs : List Txt, rDo f.2.1 rs ∈ g ∧ f.2.2.length = rs.length ∧ 1 ≤ rs.length ∧ rs.length ≤ 3 ∧ ∀ x ∈ f.2.2, x < many
structure DrMod (g : List Rw) (m : Mdl) : Prop where
  m1 : 1 ≤ m.many
  m3 : m.many ≤ 3
  kinds : ∀ p ∈ m.kinds, p.1 ∈ kindL g [[116, 104, 105, 110, 103], [113, 117, 97, 108, 105, 116, 121]] ∧ p.2 < m.many
  kl : m.kinds.length ≤ 100
  ka : m.kinds.Pairwise prLt
  nu : sortC ((kindL g [[110, 97, 109, 101]]).map .str) = some (.fr (.lst ((m.names.map (·.1)).map .str))) ∧ (m.names.map (·.1)).Perm (kindL g [[110, 97, 109, 101]]) ∧ (m.names.map (·.1)).Pairwise (· < ·)
  nv : ∀ p ∈ m.names, p.2 < m.many
  facts : ∀ f ∈ m.facts, FcOk g m.many f
  fnd : m.facts.Nodup
  fl : m.facts.length ≤ 20
  fa : Asc (m.facts.map fcD)
  s : m.spk < m.many
  h : m.hrr < m.many
theorem pick_do (n : Nat) {g : List Rw} (hg : GrOk g) (ds : List Int) (i : Nat) (l : Int) : ∃ r ∈ doL g, Fi.run T G (n + 2) "_law_pick" [(true, WL ds i l), (false, .lst ((doL g).map rwD))] = some (.sh (rwD r), [.ow (WL ds (i + 1) l), .sh (.lst ((doL g).map rwD))]) := by
  obtain ⟨x, h1, h2⟩ := run_pick (T := T) (G := G) rfl rfl n ds i (okRest_left l) ((doL g).map rwD) (by simpa using doL_ne hg)
  have := List.mem_of_getElem? h1
  rw [List.mem_map] at this
  obtain ⟨r, hr, rfl⟩ := this
  exact ⟨r, hr, h2⟩
theorem pick_time (n : Nat) (ds : List Int) (i : Nat) (l : Int) : ∃ t ∈ times3, Fi.run T G (n + 2) "_law_pick" [(true, WL ds i l), (false, .lst [.str [112, 97, 115, 116], .str [110, 111, 119], .str [108, 97, 116, 101, 114]])] = some (.sh (.str t), [.ow (WL ds (i + 1) l), .sh (.lst [.str [112, 97, 115, 116], .str [110, 111, 119], .str [108, 97, 116, 101, 114]])]) := by
  obtain ⟨x, h1, h2⟩ := run_pick (T := T) (G := G) rfl rfl n ds i (okRest_left l) [.str [112, 97, 115, 116], .str [110, 111, 119], .str [108, 97, 116, 101, 114]] (by simp)
  have := List.mem_of_getElem? h1
  simp only [List.mem_cons, List.not_mem_nil, or_false] at this
  rcases this with rfl | rfl | rfl
  · exact ⟨[112, 97, 115, 116], by simp [times3], h2⟩
  · exact ⟨[110, 111, 119], by simp [times3], h2⟩
  · exact ⟨[108, 97, 116, 101, 114], by simp [times3], h2⟩
theorem nxt_nat (ds : List Int) (i : Nat) {m : Nat} (h : 0 < m) : ∃ x : Nat, x < m ∧ nxt ds i (m : Int) = (x : Int) := by
  have := nxt_le (ds := ds) (i := i) (m := m) (by omega)
  exact ⟨(nxt ds i (m : Int)).toNat, by omega, by omega⟩
theorem cmp_rows8 (C : Fi.Ctx) (g : List Rw) (hg : g.length ≤ 20) (s0 s2 s3 s4 s5 s6 s7 s8 s9 s10 s11 s12 : Sl) :
    evE C k2_law_model ⟨[s0, .sh (gD g), s2, s3, s4, s5, s6, s7, s8, s9, s10, s11, s12], [0]⟩ = some (.ow (.lst ((doL g).map rwD)), ⟨[s0, .sh (gD g), s2, s3, s4, s5, s6, s7, s8, s9, s10, s11, s12], [0]⟩) := by
  refine cmpV_filter rwD rwD (fun r => decide (r.k = [100, 111, 105, 110, 103])) g (d := gD g) (l := none) (E1 := ⟨[s0, .sh (gD g), s2, s3, s4, s5, s6, s7, s8, s9, s10, s11, s12], [0]⟩) rfl rfl rfl rfl (fun r _ => ?_) (by unfold bigLine; omega) rfl
  have h0 : (0 : Int) < (r.more.length : Int) + 1 + 1 := by omega
  unfold rwD
  generalize gD g = gd at *
  by_cases h : r.k = [100, 111, 105, 110, 103]
  · walk_at "fi"
  · walk_at "fi"
theorem cmp_kinds (N : Nat) (T' : Str → Option Fn) (i1 : (ctxOf T' G N).io "_law_next" = [true, false]) (ds : List Int) (i : Nat) (l : Int) (gd : D) (many : Nat) (hm : many ≤ 100) (s : Txt) (s3 s5 s6 s7 s8 s9 s11 s12 : Sl)
    (hN : ∀ (i : Nat) (l m : Int), 0 < m → Fi.run T' G N "_law_next" [(true, WL ds i l), (false, .int m)] = some (.sh (.int (nxt ds i m)), [.ow (WL ds (i + 1) l), .sh (.int m)])) :
    ∃ (ys : List Nat) (i' : Nat), ys.Sublist (List.range many) ∧ evE (ctxOf T' G N) k4_law_model ⟨[.ow (WL ds i l), .sh gd, .sh (.int many), s3, .sh (.str s), s5, s6, s7, s8, s9, .un, s11, s12], [0]⟩ = some (.ow (.lst (ys.map fun k => prD (s, k))), ⟨[.ow (WL ds i' l), .sh gd, .sh (.int many), s3, .sh (.str s), s5, s6, s7, s8, s9, .un, s11, s12], [0]⟩) := by
  have hev : evI (ctxOf T' G N) (.rng1 (.var 2)) ⟨[.ow (WL ds i l), .sh gd, .sh (.int many), s3, .sh (.str s), s5, s6, s7, s8, s9, .un, s11, s12], [0]⟩ = some ((List.range many).map fun k : Nat => D.int k, none, ⟨[.ow (WL ds i l), .sh gd, .sh (.int many), s3, .sh (.str s), s5, s6, s7, s8, s9, .un, s11, s12], [0]⟩) := by
    refine evI_rng (n := many) ?_ (by omega)
    clear hN
    walk_at "fi"
  have he := eqv_int
  have step : ∀ x ∈ List.range many, ∀ E2, (∃ i : Nat, E2 = ⟨[.ow (WL ds i l), .sh gd, .sh (.int many), s3, .sh (.str s), s5, s6, s7, s8, s9, .un, s11, s12], [0]⟩) → ∃ (b : Bool) (E3 : Fi.Env), turnF (.nm 10) (evT (ctxOf T' G N) (.cons (.op2 .eq (.call "_law_next" (.cons (.var 0) (.cons (.con (.int 2)) .nil))) (.con (.int 0))) .nil)) (evE (ctxOf T' G N) (.tup (.cons (.var 4) (.cons (.var 10) .nil)))) [10] (.int (x : Nat)) E2 = some (if b = true then some (prD (s, x)) else none, E3) ∧ (∃ i : Nat, E3 = ⟨[.ow (WL ds i l), .sh gd, .sh (.int many), s3, .sh (.str s), s5, s6, s7, s8, s9, .un, s11, s12], [0]⟩) := by
    rintro x hx E2 ⟨i, rfl⟩
    refine ⟨decide (nxt ds i 2 = 0), _, ?_, ⟨i + 1, rfl⟩⟩
    clear hev
    unfold prD
    by_cases h : nxt ds i 2 = 0
    · walk_at "fi"
    · walk_at "fi"
  have key := cmp_sub (fun k : Nat => D.int k) (fun k : Nat => prD (s, k)) (List.range many) (I := fun E' => ∃ i : Nat, E' = ⟨[.ow (WL ds i l), .sh gd, .sh (.int many), s3, .sh (.str s), s5, s6, s7, s8, s9, .un, s11, s12], [0]⟩) hev rfl ⟨i, rfl⟩ step (by rw [List.length_range]; unfold bigLine; omega)
  obtain ⟨ys, E3, k1, ⟨i', rfl⟩, k3⟩ := key
  exact ⟨ys, i', k3, k1⟩
theorem cmp_names (N : Nat) (T' : Str → Option Fn) (i1 : (ctxOf T' G N).io "_law_next" = [true, false]) (i2 : (ctxOf T' G N).io "_law_of_kind" = [false, false]) (ds : List Int) (i : Nat) (l : Int) (gd : D) (many : Nat) (hm : 0 < many) (L us : List Txt) (hL : us.length ≤ 100) (s3 s4 : Sl)
    (hK : Fi.run T' G N "_law_of_kind" [(false, gd), (false, .tup [.str [110, 97, 109, 101]])] = some (.ow (.lst (L.map .str)), [.sh gd, .sh (.tup [.str [110, 97, 109, 101]])]))
    (hs : sortC (L.map .str) = some (.fr (.lst (us.map .str))))
    (hN : ∀ (i : Nat) (l m : Int), 0 < m → Fi.run T' G N "_law_next" [(true, WL ds i l), (false, .int m)] = some (.sh (.int (nxt ds i m)), [.ow (WL ds (i + 1) l), .sh (.int m)])) :
    ∃ (ps : List (Txt × Nat)) (i' : Nat), ps.map (·.1) = us ∧ (∀ p ∈ ps, p.2 < many) ∧ evE (ctxOf T' G N) k3_law_model ⟨[.ow (WL ds i l), .sh gd, .sh (.int many), s3, s4, .un, .un, .un, .un, .un, .un, .un, .un], [0]⟩ = some (.ow (.lst (ps.map prD)), ⟨[.ow (WL ds i' l), .sh gd, .sh (.int many), s3, s4, .un, .un, .un, .un, .un, .un, .un, .un], [0]⟩) := by
  have sb : ∀ xs, sortB [.lst xs] = sortC xs := fun _ => rfl
  have hev : evI (ctxOf T' G N) (.seq (.blt .sorted (.cons (.call "_law_of_kind" (.cons (.var 1) (.cons (.tup (.cons (.con (.str [110, 97, 109, 101])) .nil)) .nil))) .nil))) ⟨[.ow (WL ds i l), .sh gd, .sh (.int many), s3, s4, .un, .un, .un, .un, .un, .un, .un, .un], [0]⟩ = some (us.map D.str, none, ⟨[.ow (WL ds i l), .sh gd, .sh (.int many), s3, s4, .un, .un, .un, .un, .un, .un, .un, .un], [0]⟩) := by
    clear hN
    walk_at "fi"
  have step : ∀ x ∈ us, ∀ E2, (∃ i : Nat, E2 = ⟨[.ow (WL ds i l), .sh gd, .sh (.int many), s3, s4, .un, .un, .un, .un, .un, .un, .un, .un], [0]⟩) → ∃ (y : Txt × Nat) (E3 : Fi.Env), turnF (.nm 11) (evT (ctxOf T' G N) .nil) (evE (ctxOf T' G N) (.tup (.cons (.var 11) (.cons (.call "_law_next" (.cons (.var 0) (.cons (.var 2) .nil))) .nil)))) [11] (.str x) E2 = some (some (prD y), E3) ∧ (∃ i : Nat, E3 = ⟨[.ow (WL ds i l), .sh gd, .sh (.int many), s3, s4, .un, .un, .un, .un, .un, .un, .un, .un], [0]⟩) ∧ y.1 = x ∧ y.2 < many := by
    rintro x hx E2 ⟨i, rfl⟩
    obtain ⟨k, hk, e⟩ := nxt_nat ds i hm
    refine ⟨(x, k), _, ?_, ⟨i + 1, rfl⟩, rfl, hk⟩
    have z1 : (0 : Int) < (many : Int) := by omega
    clear hev hK hs
    unfold prD
    walk_at "fi"
  have key := cmp_rel (fun t : Txt => D.str t) prD (fun x y => y.1 = x ∧ y.2 < many) us (I := fun E' => ∃ i : Nat, E' = ⟨[.ow (WL ds i l), .sh gd, .sh (.int many), s3, s4, .un, .un, .un, .un, .un, .un, .un, .un], [0]⟩) hev rfl ⟨i, rfl⟩ step (by unfold bigLine; omega)
  obtain ⟨ps, E3, k1, ⟨i', rfl⟩, k3⟩ := key
  refine ⟨ps, i', ?_, fun p hp => (k3.mem p hp).elim fun _ z => z.2.2, k1⟩
  clear hev step k1 hs hL hK
  induction k3 with
  | nil => rfl
  | cons h _ ih => rw [List.map_cons, ih, h.1]
theorem cmp_row (N : Nat) (T' : Str → Option Fn) (i1 : (ctxOf T' G N).io "_law_next" = [true, false]) (ds : List Int) (i : Nat) (l : Int) (many : Nat) (hm : 0 < many) (d : Txt) (rs : List Txt) (hrs : rs.length ≤ 3) (s1 s3 s4 s5 s6 s7 s9 s10 s11 : Sl)
    (hN : ∀ (i : Nat) (l m : Int), 0 < m → Fi.run T' G N "_law_next" [(true, WL ds i l), (false, .int m)] = some (.sh (.int (nxt ds i m)), [.ow (WL ds (i + 1) l), .sh (.int m)])) :
    ∃ (xs : List Nat) (i' : Nat), xs.length = rs.length ∧ (∀ x ∈ xs, x < many) ∧ evE (ctxOf T' G N) k1_law_model ⟨[.ow (WL ds i l), s1, .sh (.int many), s3, s4, s5, s6, s7, .sh (.tup [.str [100, 111, 105, 110, 103], .str d, .tup (rs.map .str)]), s9, s10, s11, .un], [0]⟩ = some (.ow (.lst (xs.map fun x : Nat => D.int x)), ⟨[.ow (WL ds i' l), s1, .sh (.int many), s3, s4, s5, s6, s7, .sh (.tup [.str [100, 111, 105, 110, 103], .str d, .tup (rs.map .str)]), s9, s10, s11, .un], [0]⟩) := by
  have hev : evI (ctxOf T' G N) (.seq (.idx (.var 8) (.con (.int 2)))) ⟨[.ow (WL ds i l), s1, .sh (.int many), s3, s4, s5, s6, s7, .sh (.tup [.str [100, 111, 105, 110, 103], .str d, .tup (rs.map .str)]), s9, s10, s11, .un], [0]⟩ = some (rs.map D.str, none, ⟨[.ow (WL ds i l), s1, .sh (.int many), s3, s4, s5, s6, s7, .sh (.tup [.str [100, 111, 105, 110, 103], .str d, .tup (rs.map .str)]), s9, s10, s11, .un], [0]⟩) := by
    clear hN
    walk_at "fi"
  have step : ∀ x ∈ rs, ∀ E2, (∃ i : Nat, E2 = ⟨[.ow (WL ds i l), s1, .sh (.int many), s3, s4, s5, s6, s7, .sh (.tup [.str [100, 111, 105, 110, 103], .str d, .tup (rs.map .str)]), s9, s10, s11, .un], [0]⟩) → ∃ (y : Nat) (E3 : Fi.Env), turnF (.nm 12) (evT (ctxOf T' G N) .nil) (evE (ctxOf T' G N) (.call "_law_next" (.cons (.var 0) (.cons (.var 2) .nil)))) [12] (.str x) E2 = some (some (.int y), E3) ∧ (∃ i : Nat, E3 = ⟨[.ow (WL ds i l), s1, .sh (.int many), s3, s4, s5, s6, s7, .sh (.tup [.str [100, 111, 105, 110, 103], .str d, .tup (rs.map .str)]), s9, s10, s11, .un], [0]⟩) ∧ y < many := by
    rintro x hx E2 ⟨i, rfl⟩
    obtain ⟨k, hk, e⟩ := nxt_nat ds i hm
    refine ⟨k, _, ?_, ⟨i + 1, rfl⟩, hk⟩
    have z1 : (0 : Int) < (many : Int) := by omega
    clear hev
    walk_at "fi"
  have key := cmp_rel (fun t : Txt => D.str t) (fun k : Nat => D.int k) (fun _ y => y < many) rs (I := fun E' => ∃ i : Nat, E' = ⟨[.ow (WL ds i l), s1, .sh (.int many), s3, s4, s5, s6, s7, .sh (.tup [.str [100, 111, 105, 110, 103], .str d, .tup (rs.map .str)]), s9, s10, s11, .un], [0]⟩) hev rfl ⟨i, rfl⟩ step (by unfold bigLine; omega)
  obtain ⟨xs, E3, k1, ⟨i', rfl⟩, k3⟩ := key
  exact ⟨xs, i', k3.length, fun x hx => (k3.mem x hx).elim fun _ z => z.2, k1⟩
theorem model_turn (N : Nat) {g : List Rw} (hg : GrOk g) (ds : List Int) (i : Nat) (l : Int) (many : Nat) (hm : 0 < many) (F : List Fc) (hF : F.length ≤ 100) (s3 s4 s5 j7 j8 j9 : Sl) (h7 : j7.nlk = true) (h8 : j8.nlk = true) (h9 : j9.nlk = true) (t : Int) (Q : Out → Prop)
    (fin : ∀ (i' : Nat) (f : Fc) (j7 j8 j9 : Sl), j7.nlk = true → j8.nlk = true → j9.nlk = true → FcOk g many f → Q (.nx ⟨[.ow (WL ds i' l), .sh (gD g), .sh (.int many), s3, s4, s5, .ow (fdD (putF F f)), j7, j8, j9, .un, .un, .un], [0]⟩)) :
    WT (ctxOf T G (N + 2)) (.nm 7) b1_law_model (.int t) ⟨[.ow (WL ds i l), .sh (gD g), .sh (.int many), s3, s4, s5, .ow (fdD F), j7, j8, j9, .un, .un, .un], [0]⟩ Q := by
  obtain ⟨ro, hro, r1⟩ := pick_do N hg ds i l
  obtain ⟨rs, e1, e2, e3, e4, e5⟩ := doL_row hg hro
  obtain ⟨tm, htm, r2⟩ := pick_time N ds (i + 1) l
  have hN : ∀ (i : Nat) (l m : Int), 0 < m → Fi.run T G (N + 2) "_law_next" [(true, WL ds i l), (false, .int m)] = some (.sh (.int (nxt ds i m)), [.ow (WL ds (i + 1) l), .sh (.int m)]) := fun i l m hm => next_WL (N + 1) ds i l m hm
  obtain ⟨xs, i', x1, x2, c3⟩ := cmp_row (N + 2) T (io_law_next _) ds (i + 2) l many hm ro.s rs e4 (.sh (gD g)) s3 s4 s5 (.ow (fdD F)) (.sh (.int t)) (.sh (.lst ((doL g).map rwD))) .un .un hN
  have c1 := cmp_rows8 (ctxOf T G (N + 2)) g hg.len (.ow (WL ds i l)) (.sh (.int many)) s3 s4 s5 (.ow (fdD F)) (.sh (.int t)) j8 j9 .un .un .un
  have hrow : rwD ro = .tup [.str [100, 111, 105, 110, 103], .str ro.s, .tup (rs.map .str)] := by rw [e1]; rfl
  have e6 : rDo ro.s rs ∈ g := by rw [← e1]; exact e2
  have q := fin i' (tm, ro.s, xs) (.sh (.int t)) (.sh (.tup [.str [100, 111, 105, 110, 103], .str ro.s, .tup (rs.map .str)])) (.sh (.lst ((doL g).map rwD))) rfl rfl rfl ⟨htm, rs, e6, x1, e3, e4, x2⟩
  have hset := setD_F F (tm, ro.s, xs) (by omega)
  rw [hrow] at r1
  have i1 := io_law_next
  have i2 := io_law_pick
  have hx : xs.length ≤ 16777216 := by omega
  clear e1 e2 e3 e5 e6 hro hrow hN fin htm x2 hg
  unfold fcD at hset
  unfold b1_law_model
  generalize k1_law_model = kk1 at *
  generalize k2_law_model = kk2 at *
  generalize fdD F = FD at *
  generalize fdD (putF F (tm, ro.s, xs)) = FD2 at *
  generalize doL g = L at *
  generalize gD g = gd at *
  generalize (List.map (fun x : Nat => D.int x) xs) = X at *
  generalize T = T' at *
  walk_at "fs"
end K56
end

section
set_option maxRecDepth 100000
set_option maxHeartbeats 4000000
namespace K56
open PySem L2 Fi
local macro_rules | `(tactic| walk_at "fi") => `(tactic| simp [WB_cons, WB_nil, WS_asg, WS_par, WS_aug, WS_augIx, WS_setIx, WS_ex, WS_ret, WS_retN, WS_brk, WS_cnt, WS_pas, WS_ite, iteQ_some, iteT_t, iteT_f, cont_nx, cont_rt, cont_bk, cont_ct, Lp_nx, Lp_ct, Lp_rt, Lp_bk, Lw_nx, Lw_ct, Lw_rt, Lw_bk, WT, Done_rt, Done_nx, giveD_sh, giveD_ow, giveD_pk, finsD, rg0, rg1, rg2, rg3, rg4, rg5, rg6, evS, evE, evEs, evO, evT, evI, evFs, Env.tkf, putp, Env.get, Env.put, Env.vw, Env.rd, Env.tk, Env.tks, Env.free, Rs.fz, op2D, addD, subD, mulD, fdivD, modD, powD, cmpA, ordD, nlk_un, nlk_sh, nlk_ow, nlk_lk, isD, iopD, iaddD, inopD, iaddI, op1D, PR.rs, D.truth, D.len, ixD, ix, partD, cutD, revD, lenB, absB, intB, tupleB, listB, anyB, allB, isinstB, bltD, getB, mthD, mthTy, appendB, extendB, popB, mutD, mutTy, setD, D.key, DKey.ok, tyNames, D.tyName, tySub, lock, unlock, lkFree, seqD, puts, bindT, Tg.slots, wipeE, back, argsOf, lent, lentOk, Ar.pass, behind, dk_ss, dk_ii, dk_si, dk_is, bigLine, ownOk, mapOut, turnF, dictAt, lockVar, hide, unhide, bls, inD, D.isNon, List.lookup, ctx_call, io_row_of, io_kind_of, io_roles_of, io_gloss_of, io_senses_of_kind, io_is_such, io_such_ones, io_individual_of, io_is_reached, io_goes_on, io_true_of, io_true_in, io_answer_in, io_is_number, io_is_ascending, io_is_individual, io_is_pair, io_are_pairs, io_is_fact, io_are_facts, io_are_all_names, io_is_model, io_law_draws, io_law_next, io_law_pick, io_law_same, io_law_ground, io_law_of_kind, io_law_text_of, io_law_more_text, io_law_thing, io_law_more, io_law_filler, io_law_meaning, io_law_model, io_law_wider, io_law, *])
local macro_rules | `(tactic| walk_at "fs") => `(tactic| simp [WB_cons, WB_nil, WS_asg, WS_par, WS_aug, WS_augIx, WS_setIx, WS_ex, WS_ret, WS_retN, WS_brk, WS_cnt, WS_pas, WS_ite, iteQ_some, iteT_t, iteT_f, cont_nx, cont_rt, cont_bk, cont_ct, Lp_nx, Lp_ct, Lp_rt, Lp_bk, Lw_nx, Lw_ct, Lw_rt, Lw_bk, WT, Done_rt, Done_nx, giveD_sh, giveD_ow, giveD_pk, finsD, rg0, rg1, rg2, rg3, rg4, rg5, rg6, evS, evE, evEs, evO, evT, evI, evFs, Env.tkf, putp, Env.get, Env.put, Env.vw, Env.rd, Env.tk, Env.tks, Env.free, Rs.fz, op2D, addD, subD, mulD, fdivD, modD, powD, cmpA, ordD, nlk_un, nlk_sh, nlk_ow, nlk_lk, isD, iopD, iaddD, inopD, iaddI, op1D, PR.rs, D.truth, D.len, ixD, ix, partD, cutD, revD, lenB, absB, intB, tupleB, listB, anyB, allB, isinstB, bltD, getB, mthD, mthTy, appendB, extendB, popB, mutD, mutTy, tyNames, D.tyName, tySub, lock, unlock, lkFree, seqD, puts, bindT, Tg.slots, wipeE, back, argsOf, lent, lentOk, Ar.pass, behind, dk_ss, dk_ii, dk_si, dk_is, bigLine, ownOk, mapOut, turnF, dictAt, lockVar, hide, unhide, bls, inD, D.isNon, List.lookup, ctx_call, io_row_of, io_kind_of, io_roles_of, io_gloss_of, io_senses_of_kind, io_is_such, io_such_ones, io_individual_of, io_is_reached, io_goes_on, io_true_of, io_true_in, io_answer_in, io_is_number, io_is_ascending, io_is_individual, io_is_pair, io_are_pairs, io_is_fact, io_are_facts, io_are_all_names, io_is_model, io_law_draws, io_law_next, io_law_pick, io_law_same, io_law_ground, io_law_of_kind, io_law_text_of, io_law_more_text, io_law_thing, io_law_more, io_law_filler, io_law_meaning, io_law_model, io_law_wider, io_law, *])
theorem range_lt (n : Nat) : (List.range n).Pairwise (· < ·) := List.pairwise_lt_range
theorem kinds_step (C : Fi.Ctx) (kk : CE) (w w2 : D) (gd many : D) (s : Txt) (A B : List D) (j4 : Sl) (h4 : j4.nlk = true)
    (h : evE C kk ⟨[.ow w, .sh gd, .sh many, .ow (.lst A), .sh (.str s), .un, .un, .un, .un, .un, .un, .un, .un], [0]⟩ = some (.ow (.lst B), ⟨[.ow w2, .sh gd, .sh many, .ow (.lst A), .sh (.str s), .un, .un, .un, .un, .un, .un, .un, .un], [0]⟩)) (hl : A.length + B.length ≤ 16777216) (Q : Out → Prop)
    (q : Q (.nx ⟨[.ow w2, .sh gd, .sh many, .ow (.lst (A ++ B)), .sh (.str s), .un, .un, .un, .un, .un, .un, .un, .un], [0]⟩)) :
    WT C (.nm 4) (.cons (.asg (.nm 3) (.op2 .add (.var 3) kk)) .nil) (.str s) ⟨[.ow w, .sh gd, .sh many, .ow (.lst A), j4, .un, .un, .un, .un, .un, .un, .un, .un], [0]⟩ Q := by
  walk_at "fi"
theorem draws_model (N : Nat) {g : List Rw} (hg : GrOk g) (ds : List Int) (i : Nat) (l : Int) :
    ∃ (m : Mdl) (i' : Nat) (l' : Int), DrMod g m ∧ Fi.run T G (N + 3) "_law_model" [(true, WL ds i l), (false, gD g)] = some (.sh (mD m), [.ow (WL ds i' l'), .sh (gD g)]) := by
  obtain ⟨mm, hmm, hmn⟩ : ∃ mm : Nat, mm < 3 ∧ nxt ds i 3 = (mm : Int) := nxt_nat ds i (m := 3) (by omega)
  have hN : ∀ (i : Nat) (l m : Int), 0 < m → Fi.run T G (N + 2) "_law_next" [(true, WL ds i l), (false, .int m)] = some (.sh (.int (nxt ds i m)), [.ow (WL ds (i + 1) l), .sh (.int m)]) := fun i l m hm => next_WL (N + 1) ds i l m hm
  have hK1 := run_kindL (N + 1) hg [[116, 104, 105, 110, 103], [113, 117, 97, 108, 105, 116, 121]]
  have hK2 := run_kindL (N + 1) hg [[110, 97, 109, 101]]
  simp only [List.map_cons, List.map_nil] at hK1 hK2
  obtain ⟨us, u1, u2, u3⟩ := sort_txt (kindL g [[116, 104, 105, 110, 103], [113, 117, 97, 108, 105, 116, 121]]) (nodup_kindL hg _)
  obtain ⟨vs, v1, v2, v3⟩ := sort_txt (kindL g [[110, 97, 109, 101]]) (nodup_kindL hg _)
  have ul : us.length ≤ 20 := by rw [u2.length_eq]; exact len_kindL hg _
  have vl : vs.length ≤ 20 := by rw [v2.length_eq]; exact len_kindL hg _
  have sb : ∀ xs, sortB [.lst xs] = sortC xs := fun _ => rfl
  have he := eqv_int
  have i1 := io_law_next
  have i2 := io_law_of_kind
  have key : ∃ rr ss, Fi.run T G (N + 3) "_law_model" [(true, WL ds i l), (false, gD g)] = some (rr, ss) ∧ ∃ (m : Mdl) (i' : Nat) (l' : Int), DrMod g m ∧ rr = .sh (mD m) ∧ ss = [.ow (WL ds i' l'), .sh (gD g)] := by
    refine run_wb (fn := f_law_model) (E0 := ⟨[.ow (WL ds i l), .sh (gD g), .un, .un, .un, .un, .un, .un, .un, .un, .un, .un, .un], [0]⟩) rfl rfl rfl ?_
    show WB _ c_law_model _ (Done 2 _)
    generalize hP : (fun (rr : Rs) (ss : List Sl) => ∃ (m : Mdl) (i' : Nat) (l' : Int), DrMod g m ∧ rr = .sh (mD m) ∧ ss = [.ow (WL ds i' l'), .sh (gD g)]) = P
    have fin : ∀ (m : Mdl) (i' : Nat), DrMod g m → P (.sh (mD m)) [.ow (WL ds i' l), .sh (gD g)] := fun m i' h => by rw [← hP]; exact ⟨m, i', l, h, rfl, rfl⟩
    clear hP
    unfold c_law_model
    refine wb_step (E1 := ⟨[.ow (WL ds (i + 1) l), .sh (gD g), .sh (.int ((mm + 1 : Nat) : Int)), .un, .un, .un, .un, .un, .un, .un, .un, .un, .un], [0]⟩) ?_ ?_
    · clear fin hK1 hK2 u1 v1 sb
      have e : (1 : Int) + (mm : Int) = (mm : Int) + 1 := by omega
      generalize gD g = gd at *
      generalize T = T' at *
      walk_at "fi"
    have hmany : 0 < mm + 1 := by omega
    have hm3 : mm + 1 ≤ 3 := by omega
    generalize mm + 1 = many at *
    clear hmn hmm
    refine wb_step (E1 := ⟨[.ow (WL ds (i + 1) l), .sh (gD g), .sh (.int many), .ow (.lst []), .un, .un, .un, .un, .un, .un, .un, .un, .un], [0]⟩) ?_ ?_
    · clear fin hK1 hK2 u1 v1 sb hN
      generalize gD g = gd at *
      generalize T = T' at *
      walk_at "fi"
    rw [WB_cons]
    refine ws_for (fun s : Txt => D.str s) us (l := none) (E1 := ⟨[.ow (WL ds (i + 1) l), .sh (gD g), .sh (.int many), .ow (.lst []), .un, .un, .un, .un, .un, .un, .un, .un, .un], [0]⟩)
      (I := fun pre E' => ∃ (i : Nat) (ks : List (Txt × Nat)) (j4 : Sl), E' = ⟨[.ow (WL ds i l), .sh (gD g), .sh (.int many), .ow (.lst (ks.map prD)), j4, .un, .un, .un, .un, .un, .un, .un, .un], [0]⟩ ∧ j4.nlk = true ∧ ks.length ≤ 4 * pre.length ∧ ks.Pairwise prLt ∧ ∀ p ∈ ks, p.1 ∈ pre ∧ p.2 < many)
      ?_ ⟨i + 1, [], .un, rfl, rfl, by simp, .nil, by simp⟩ ?_ ?_
    · clear fin hK2 v1 hN
      generalize gD g = gd at *
      generalize T = T' at *
      walk_at "fi"
    · rintro pre s post E' hx ⟨i, ks, j4, rfl, h4, hl, hp, hk⟩
      obtain ⟨ys, i', y1, y2⟩ := cmp_kinds (N + 2) T (io_law_next _) ds i l (gD g) many (by omega) s (.ow (.lst (ks.map prD))) .un .un .un .un .un .un .un hN
      have hpl : pre.length ≤ 20 := by have := congrArg List.length hx; simp at this; omega
      have yl : ys.length ≤ 3 := by have := y1.length_le; simp at this; omega
      have q : ∀ j : Nat, ∃ (i : Nat) (ks2 : List (Txt × Nat)) (j4 : Sl), (⟨[.ow (WL ds i' l), .sh (gD g), .sh (.int many), .ow (.lst (ks.map prD ++ ys.map fun k => prD (s, k))), .sh (.str s), .un, .un, .un, .un, .un, .un, .un, .un], [0]⟩ : Fi.Env) = ⟨[.ow (WL ds i l), .sh (gD g), .sh (.int many), .ow (.lst (ks2.map prD)), j4, .un, .un, .un, .un, .un, .un, .un, .un], [0]⟩ ∧ j4.nlk = true ∧ ks2.length ≤ 4 * (pre ++ [s]).length ∧ ks2.Pairwise prLt ∧ ∀ p ∈ ks2, p.1 ∈ pre ++ [s] ∧ p.2 < many := by
        intro _
        refine ⟨i', ks ++ ys.map fun k => (s, k), .sh (.str s), by rw [List.map_append, List.map_map]; rfl, rfl, by simp; omega, ?_, ?_⟩
        · rw [List.pairwise_append]
          refine ⟨hp, ?_, ?_⟩
          · rw [List.pairwise_map]
            exact (range_lt many).sublist y1 |>.imp fun h => .inr ⟨rfl, h⟩
          · rintro a ha b hb
            rw [List.mem_map] at hb
            obtain ⟨y, _, rfl⟩ := hb
            rw [hx] at u3
            exact .inl ((List.pairwise_append.mp u3).2.2 a.1 (hk a ha).1 s (by simp))
        · intro p hp
          rw [List.mem_append] at hp
          rcases hp with hp | hp
          · exact ⟨by simp [(hk p hp).1], (hk p hp).2⟩
          · rw [List.mem_map] at hp
            obtain ⟨y, hy, rfl⟩ := hp
            exact ⟨by simp, by have := y1.subset hy; simpa using this⟩
      have q := q 0
      exact kinds_step _ k4_law_model _ _ _ _ s (ks.map prD) (ys.map fun k => prD (s, k)) j4 h4 y2 (by rw [List.length_map, List.length_map]; omega) _ q
    · rintro E' ⟨i, ks, j4, rfl, h4, hl, hp, hk⟩
      rw [show ∀ X, unlock X none = X from fun _ => rfl, cont_nx]
      obtain ⟨ps, i', p1, p2, p3⟩ := cmp_names (N + 2) T (io_law_next _) (io_law_of_kind _) ds i l (gD g) many hmany (kindL g [[110, 97, 109, 101]]) vs (by omega) (.ow (.lst (ks.map prD))) j4 hK2 v1 hN
      refine wb_step (E1 := ⟨[.ow (WL ds i' l), .sh (gD g), .sh (.int many), .ow (.lst (ks.map prD)), j4, .sh (.tup (ps.map prD)), .un, .un, .un, .un, .un, .un, .un], [0]⟩) ?_ ?_
      · clear hp hk fin hK1 hK2 u1 u2 u3 v1 v2 v3 hN sb
        generalize k3_law_model = kk at *
        generalize ks.map prD = A at *
        generalize ps.map prD = B at *
        generalize gD g = gd at *
        generalize T = T' at *
        walk_at "fi"
      refine wb_step (E1 := ⟨[.ow (WL ds i' l), .sh (gD g), .sh (.int many), .ow (.lst (ks.map prD)), j4, .sh (.tup (ps.map prD)), .ow (.dct false []), .un, .un, .un, .un, .un, .un], [0]⟩) ?_ ?_
      · clear hp hk fin hK1 hK2 u1 u2 u3 v1 v2 v3 hN sb
        generalize ks.map prD = A at *
        generalize ps.map prD = B at *
        generalize gD g = gd at *
        generalize T = T' at *
        walk_at "fi"
      obtain ⟨c9, hc9, hcn⟩ : ∃ c : Nat, c < 9 ∧ nxt ds i' 9 = (c : Int) := nxt_nat ds i' (m := 9) (by omega)
      rw [WB_cons]
      refine ws_for (fun k : Nat => D.int k) (List.range (2 + c9)) (l := none) (E1 := ⟨[.ow (WL ds (i' + 1) l), .sh (gD g), .sh (.int many), .ow (.lst (ks.map prD)), j4, .sh (.tup (ps.map prD)), .ow (.dct false []), .un, .un, .un, .un, .un, .un], [0]⟩)
        (I := fun pre E' => ∃ (i : Nat) (F : List Fc) (j7 j8 j9 : Sl), E' = ⟨[.ow (WL ds i l), .sh (gD g), .sh (.int many), .ow (.lst (ks.map prD)), j4, .sh (.tup (ps.map prD)), .ow (fdD F), j7, j8, j9, .un, .un, .un], [0]⟩ ∧ j7.nlk = true ∧ j8.nlk = true ∧ j9.nlk = true ∧ F.length ≤ pre.length ∧ F.Nodup ∧ ∀ f ∈ F, FcOk g many f)
        ?_ ⟨i' + 1, [], .un, .un, .un, rfl, rfl, rfl, rfl, by simp, .nil, by simp⟩ ?_ ?_
      · refine evI_rng (n := 2 + c9) ?_ (by omega)
        have e : ((2 + c9 : Nat) : Int) = 2 + (c9 : Int) := by omega
        rw [e]
        clear hp hk fin hK1 hK2 u1 u2 u3 v1 v2 v3 sb p3
        generalize ks.map prD = A at *
        generalize ps.map prD = B at *
        generalize gD g = gd at *
        generalize T = T' at *
        walk_at "fi"
      · rintro pre t post E' hx ⟨i, F, j7, j8, j9, rfl, h7, h8, h9, hFl, hFn, hFk⟩
        have hpl : pre.length ≤ 20 := by have := congrArg List.length hx; simp at this; omega
        refine model_turn N hg ds i l many hmany F (by omega) _ _ _ j7 j8 j9 h7 h8 h9 t _ fun i' f j7 j8 j9 h7 h8 h9 hf => ?_
        rw [Lp_nx]
        refine ⟨i', putF F f, j7, j8, j9, rfl, h7, h8, h9, by have := putF_len F f; simp; omega, putF_nodup hFn, fun x hx => ?_⟩
        rcases putF_mem.mp hx with h | rfl
        · exact hFk x h
        · exact hf
      · rintro E' ⟨i2, F, j7, j8, j9, rfl, h7, h8, h9, hFl, hFn, hFk⟩
        rw [show ∀ X, unlock X none = X from fun _ => rfl, cont_nx]
        obtain ⟨fs, f1, f2, f3⟩ := sort_facts F hFn
        obtain ⟨sp, s1, s2⟩ := nxt_nat ds i2 hmany
        obtain ⟨hr, r1, r2⟩ := nxt_nat ds (i2 + 1) hmany
        have hFl' : F.length ≤ 20 := by simp at hFl; omega
        have hkl : ks.length ≤ 100 := by omega
        have q := fin ⟨many, ks, ps, fs, sp, hr⟩ (i2 + 2) ⟨hmany, hm3, fun p h => ⟨u2.mem_iff.mp (hk p h).1, (hk p h).2⟩, hkl, hp, ⟨by rw [p1]; exact v1, by rw [p1]; exact v2, by rw [p1]; exact v3⟩, p2, fun f hf => hFk f (f2.mem_iff.mp hf), f2.nodup_iff.mpr hFn, by rw [f2.length_eq]; exact hFl', f3, s1, r1⟩
        unfold mD tModel at q
        simp only at q
        have z1 : (0 : Int) < (many : Int) := by omega
        clear hp hk fin hK1 hK2 u1 u2 u3 v1 v2 v3 sb p3 hFk hFn f2 f3 p1 p2 hcn
        generalize ks.map prD = A at *
        generalize ps.map prD = B at *
        generalize fs.map fcD = CC at *
        generalize fdD F = FD at *
        generalize gD g = gd at *
        generalize T = T' at *
        walk_at "fs"
  obtain ⟨rr, ss, h, m, i', l', h1, rfl, rfl⟩ := key
  exact ⟨m, i', l', h1, h⟩
end K56
end

section
set_option maxRecDepth 100000
set_option maxHeartbeats 4000000
namespace K56
open PySem L2 Fi
local macro_rules | `(tactic| walk_at "fi") => `(tactic| simp [WB_cons, WB_nil, WS_asg, WS_par, WS_aug, WS_augIx, WS_setIx, WS_ex, WS_ret, WS_retN, WS_brk, WS_cnt, WS_pas, WS_ite, iteQ_some, iteT_t, iteT_f, cont_nx, cont_rt, cont_bk, cont_ct, Lp_nx, Lp_ct, Lp_rt, Lp_bk, Lw_nx, Lw_ct, Lw_rt, Lw_bk, WT, Done_rt, Done_nx, giveD_sh, giveD_ow, giveD_pk, finsD, rg0, rg1, rg2, rg3, rg4, rg5, rg6, evS, evE, evEs, evO, evT, evI, evFs, Env.tkf, putp, Env.get, Env.put, Env.vw, Env.rd, Env.tk, Env.tks, Env.free, Rs.fz, op2D, addD, subD, mulD, fdivD, modD, powD, cmpA, ordD, nlk_un, nlk_sh, nlk_ow, nlk_lk, isD, iopD, iaddD, inopD, iaddI, op1D, PR.rs, D.truth, D.len, ixD, ix, partD, cutD, revD, lenB, absB, intB, tupleB, listB, anyB, allB, isinstB, bltD, getB, mthD, mthTy, appendB, extendB, popB, mutD, mutTy, setD, D.key, DKey.ok, tyNames, D.tyName, tySub, lock, unlock, lkFree, seqD, puts, bindT, Tg.slots, wipeE, back, argsOf, lent, lentOk, Ar.pass, behind, dk_ss, dk_ii, dk_si, dk_is, bigLine, ownOk, mapOut, turnF, dictAt, lockVar, hide, unhide, bls, inD, D.isNon, List.lookup, ctx_call, io_row_of, io_kind_of, io_roles_of, io_gloss_of, io_senses_of_kind, io_is_such, io_such_ones, io_individual_of, io_is_reached, io_goes_on, io_true_of, io_true_in, io_answer_in, io_is_number, io_is_ascending, io_is_individual, io_is_pair, io_are_pairs, io_is_fact, io_are_facts, io_are_all_names, io_is_model, io_law_draws, io_law_next, io_law_pick, io_law_same, io_law_ground, io_law_of_kind, io_law_text_of, io_law_more_text, io_law_thing, io_law_more, io_law_filler, io_law_meaning, io_law_model, io_law_wider, io_law, *])
local macro_rules | `(tactic| walk_at "fs") => `(tactic| simp [WB_cons, WB_nil, WS_asg, WS_par, WS_aug, WS_augIx, WS_setIx, WS_ex, WS_ret, WS_retN, WS_brk, WS_cnt, WS_pas, WS_ite, iteQ_some, iteT_t, iteT_f, cont_nx, cont_rt, cont_bk, cont_ct, Lp_nx, Lp_ct, Lp_rt, Lp_bk, Lw_nx, Lw_ct, Lw_rt, Lw_bk, WT, Done_rt, Done_nx, giveD_sh, giveD_ow, giveD_pk, finsD, rg0, rg1, rg2, rg3, rg4, rg5, rg6, evS, evE, evEs, evO, evT, evI, evFs, Env.tkf, putp, Env.get, Env.put, Env.vw, Env.rd, Env.tk, Env.tks, Env.free, Rs.fz, op2D, addD, subD, mulD, fdivD, modD, powD, cmpA, ordD, nlk_un, nlk_sh, nlk_ow, nlk_lk, isD, iopD, iaddD, inopD, iaddI, op1D, PR.rs, D.truth, D.len, ixD, ix, partD, cutD, revD, lenB, absB, intB, tupleB, listB, anyB, allB, isinstB, bltD, getB, mthD, mthTy, appendB, extendB, popB, mutD, mutTy, tyNames, D.tyName, tySub, lock, unlock, lkFree, seqD, puts, bindT, Tg.slots, wipeE, back, argsOf, lent, lentOk, Ar.pass, behind, dk_ss, dk_ii, dk_si, dk_is, bigLine, ownOk, mapOut, turnF, dictAt, lockVar, hide, unhide, bls, inD, D.isNon, List.lookup, ctx_call, io_row_of, io_kind_of, io_roles_of, io_gloss_of, io_senses_of_kind, io_is_such, io_such_ones, io_individual_of, io_is_reached, io_goes_on, io_true_of, io_true_in, io_answer_in, io_is_number, io_is_ascending, io_is_individual, io_is_pair, io_are_pairs, io_is_fact, io_are_facts, io_are_all_names, io_is_model, io_law_draws, io_law_next, io_law_pick, io_law_same, io_law_ground, io_law_of_kind, io_law_text_of, io_law_more_text, io_law_thing, io_law_more, io_law_filler, io_law_meaning, io_law_model, io_law_wider, io_law, *])
/-! ### the wider model -/
theorem wt_nm {C : Fi.Ctx} {b : CB} {d : D} {E E1 : Fi.Env} {i : Nat} {Q : Out → Prop} (hf : E.free i = true) (e : E.put i (.sh d) = E1) (h : WB C b E1 Q) : WT C (.nm i) b d E Q := by
  have hb : bindT (.nm i) d E = some E1 := by
    show (if E.free i = true then some (E.put i (.sh d)) else none) = _
    rw [if_pos hf, e]
  unfold WT
  rw [hb]
  exact h
theorem dict_facts (fs : List Fc) (hn : fs.Nodup) : dictB [.lst (fs.map fun f => .tup [fcD f, .bl true])] = some (.fr (fdD fs)) := by
  show dictC _ = _
  have hp : ∀ fs : List Fc, dPairs (fs.map fun f => .tup [fcD f, .bl true]) = some (fs.map kvF) := by
    intro fs
    induction fs with
    | nil => rfl
    | cons f fs ih =>
      rw [List.map_cons, List.map_cons]
      unfold dPairs
      rw [key_fc, ih]
      rfl
  unfold dictC
  rw [hp, Option.bind_some]
  have hd : dAll (fs.map kvF) = fs.map kvF := by
    have hk : ((fs.map kvF).map (·.1)).Nodup := by
      rw [List.map_map]
      unfold List.Nodup at hn ⊢
      exact List.pairwise_map.mpr (hn.imp fun ne e => ne (fkey_inj (by simpa [kvF] using e)))
    exact dAll_nodup _ [] (by simpa using hk)
  cases fs with
  | nil => rfl
  | cons f fs =>
    rw [if_neg (by simp [kvF, DKey.ok]), if_pos (by rw [List.all_eq_true]; intro x hx; rw [List.mem_map] at hx; obtain ⟨y, _, rfl⟩ := hx; rfl), hd]
    rfl
theorem cmp_rows6 (C : Fi.Ctx) (g : List Rw) (hg : g.length ≤ 20) (s0 s2 s3 s4 s5 s6 s7 s8 s9 : Sl) :
    evE C k2_law_wider ⟨[s0, .sh (gD g), s2, s3, s4, s5, s6, s7, s8, s9], [0]⟩ = some (.ow (.lst ((doL g).map rwD)), ⟨[s0, .sh (gD g), s2, s3, s4, s5, s6, s7, s8, s9], [0]⟩) := by
  refine cmpV_filter rwD rwD (fun r => decide (r.k = [100, 111, 105, 110, 103])) g (d := gD g) (l := none) (E1 := ⟨[s0, .sh (gD g), s2, s3, s4, s5, s6, s7, s8, s9], [0]⟩) rfl rfl rfl rfl (fun r _ => ?_) (by unfold bigLine; omega) rfl
  have h0 : (0 : Int) < (r.more.length : Int) + 1 + 1 := by omega
  unfold rwD
  generalize gD g = gd at *
  by_cases h : r.k = [100, 111, 105, 110, 103]
  · walk_at "fi"
  · walk_at "fi"
theorem cmp_rowW (N : Nat) (T' : Str → Option Fn) (i1 : (ctxOf T' G N).io "_law_next" = [true, false]) (ds : List Int) (i : Nat) (l : Int) (many : Nat) (d : Txt) (rs : List Txt) (hrs : rs.length ≤ 3) (s1 s2 s4 s5 s6 s8 : Sl)
    (hN : ∀ (i : Nat) (l m : Int), 0 < m → Fi.run T' G N "_law_next" [(true, WL ds i l), (false, .int m)] = some (.sh (.int (nxt ds i m)), [.ow (WL ds (i + 1) l), .sh (.int m)])) :
    ∃ (xs : List Nat) (i' : Nat), xs.length = rs.length ∧ (∀ x ∈ xs, x < many + 1) ∧ evE (ctxOf T' G N) k1_law_wider ⟨[.ow (WL ds i l), s1, s2, .sh (.int many), s4, s5, s6, .sh (.tup [.str [100, 111, 105, 110, 103], .str d, .tup (rs.map .str)]), s8, .un], [0]⟩ = some (.ow (.lst (xs.map fun x : Nat => D.int x)), ⟨[.ow (WL ds i' l), s1, s2, .sh (.int many), s4, s5, s6, .sh (.tup [.str [100, 111, 105, 110, 103], .str d, .tup (rs.map .str)]), s8, .un], [0]⟩) := by
  have hev : evI (ctxOf T' G N) (.seq (.idx (.var 7) (.con (.int 2)))) ⟨[.ow (WL ds i l), s1, s2, .sh (.int many), s4, s5, s6, .sh (.tup [.str [100, 111, 105, 110, 103], .str d, .tup (rs.map .str)]), s8, .un], [0]⟩ = some (rs.map D.str, none, ⟨[.ow (WL ds i l), s1, s2, .sh (.int many), s4, s5, s6, .sh (.tup [.str [100, 111, 105, 110, 103], .str d, .tup (rs.map .str)]), s8, .un], [0]⟩) := by
    clear hN
    walk_at "fi"
  have step : ∀ x ∈ rs, ∀ E2, (∃ i : Nat, E2 = ⟨[.ow (WL ds i l), s1, s2, .sh (.int many), s4, s5, s6, .sh (.tup [.str [100, 111, 105, 110, 103], .str d, .tup (rs.map .str)]), s8, .un], [0]⟩) → ∃ (y : Nat) (E3 : Fi.Env), turnF (.nm 9) (evT (ctxOf T' G N) .nil) (evE (ctxOf T' G N) (.call "_law_next" (.cons (.var 0) (.cons (.op2 .add (.var 3) (.con (.int 1))) .nil)))) [9] (.str x) E2 = some (some (.int y), E3) ∧ (∃ i : Nat, E3 = ⟨[.ow (WL ds i l), s1, s2, .sh (.int many), s4, s5, s6, .sh (.tup [.str [100, 111, 105, 110, 103], .str d, .tup (rs.map .str)]), s8, .un], [0]⟩) ∧ y < many + 1 := by
    rintro x hx E2 ⟨i, rfl⟩
    obtain ⟨k, hk, e⟩ := nxt_nat ds i (m := many + 1) (by omega)
    refine ⟨k, _, ?_, ⟨i + 1, rfl⟩, hk⟩
    have z0 : ((many + 1 : Nat) : Int) = (many : Int) + 1 := by omega
    rw [z0] at e
    have z1 : (0 : Int) < (many : Int) + 1 := by omega
    clear hev z0
    walk_at "fi"
  have key := cmp_rel (fun t : Txt => D.str t) (fun k : Nat => D.int k) (fun _ y => y < many + 1) rs (I := fun E' => ∃ i : Nat, E' = ⟨[.ow (WL ds i l), s1, s2, .sh (.int many), s4, s5, s6, .sh (.tup [.str [100, 111, 105, 110, 103], .str d, .tup (rs.map .str)]), s8, .un], [0]⟩) hev rfl ⟨i, rfl⟩ step (by unfold bigLine; omega)
  obtain ⟨xs, E3, k1, ⟨i', rfl⟩, k3⟩ := key
  exact ⟨xs, i', k3.length, fun x hx => (k3.mem x hx).elim fun _ z => z.2, k1⟩
theorem wider_turn (N : Nat) {g : List Rw} (hg : GrOk g) (ds : List Int) (i : Nat) (l : Int) (many : Nat) (F : List Fc) (hF : F.length ≤ 100) (s2 j5 j6 j7 : Sl) (h5 : j5.nlk = true) (h6 : j6.nlk = true) (h7 : j7.nlk = true) (t : Int) (Q : Out → Prop)
    (fin : ∀ (i' : Nat) (f : Fc) (j5 j6 j7 : Sl), j5.nlk = true → j6.nlk = true → j7.nlk = true → FcOk g (many + 1) f → many ∈ f.2.2 → Q (.nx ⟨[.ow (WL ds i' l), .sh (gD g), s2, .sh (.int many), .ow (fdD (putF F f)), j5, j6, j7, .un, .un], [0]⟩)) :
    WT (ctxOf T G (N + 2)) (.nm 5) b1_law_wider (.int t) ⟨[.ow (WL ds i l), .sh (gD g), s2, .sh (.int many), .ow (fdD F), j5, j6, j7, .un, .un], [0]⟩ Q := by
  obtain ⟨ro, hro, r1⟩ := pick_do N hg ds i l
  obtain ⟨rs, e1, e2, e3, e4, e5⟩ := doL_row hg hro
  have hN : ∀ (i : Nat) (l m : Int), 0 < m → Fi.run T G (N + 2) "_law_next" [(true, WL ds i l), (false, .int m)] = some (.sh (.int (nxt ds i m)), [.ow (WL ds (i + 1) l), .sh (.int m)]) := fun i l m hm => next_WL (N + 1) ds i l m hm
  have hrow : rwD ro = .tup [.str [100, 111, 105, 110, 103], .str ro.s, .tup (rs.map .str)] := by rw [e1]; rfl
  obtain ⟨xs, i', x1, x2, c3⟩ := cmp_rowW (N + 2) T (io_law_next _) ds (i + 1) l many ro.s rs e4 (.sh (gD g)) s2 (.ow (fdD F)) (.sh (.int t)) j6 .un hN
  obtain ⟨kk, hk, k1⟩ := nxt_nat ds i' (m := xs.length) (by omega)
  obtain ⟨tm, htm, r2⟩ := pick_time N ds (i' + 1) l
  have c1 := cmp_rows6 (ctxOf T G (N + 2)) g hg.len (.ow (WL ds i l)) s2 (.sh (.int many)) (.ow (fdD F)) (.sh (.int t)) j6 j7 .un .un
  have e6 : rDo ro.s rs ∈ g := by rw [← e1]; exact e2
  have hmem : many ∈ xs.set kk many := by
    rw [List.mem_iff_getElem?]
    exact ⟨kk, by rw [List.getElem?_set_self hk]⟩
  have q := fin (i' + 2) (tm, ro.s, xs.set kk many) (.sh (.int t)) (.ow (.lst ((xs.set kk many).map fun x : Nat => D.int x))) (.sh (.tup [.str [100, 111, 105, 110, 103], .str ro.s, .tup (rs.map .str)])) rfl rfl rfl ⟨htm, rs, e6, by rw [List.length_set]; exact x1, e3, e4, fun x hx => by
    rcases List.mem_or_eq_of_mem_set hx with h | h
    · exact x2 x h
    · omega⟩ hmem
  have hset := setD_F F (tm, ro.s, xs.set kk many) (by omega)
  rw [hrow] at r1
  have i1 := io_law_next
  have i2 := io_law_pick
  have xl : (xs.length : Int) ≠ 0 := by omega
  have hx0 : (0 : Int) < (xs.length : Int) := by omega
  have hx1 : 0 < xs.length := by omega
  have hki : (kk : Int) < (xs.length : Int) := by omega
  have hxl : xs.length ≤ 16777216 := by omega
  clear e1 e2 e3 e5 e6 hro hrow fin htm x2 hg hmem x1
  refine wt_nm (E1 := ⟨[.ow (WL ds i l), .sh (gD g), s2, .sh (.int many), .ow (fdD F), .sh (.int t), j6, j7, .un, .un], [0]⟩) ?_ rfl ?_
  · clear r1 c3 r2 c1 q hset hN
    generalize fdD F = FD at *
    generalize gD g = gd at *
    walk_at "fi"
  unfold b1_law_wider
  refine wb_step (E1 := ⟨[.ow (WL ds (i + 1) l), .sh (gD g), s2, .sh (.int many), .ow (fdD F), .sh (.int t), j6, .sh (.tup [.str [100, 111, 105, 110, 103], .str ro.s, .tup (rs.map .str)]), .un, .un], [0]⟩) ?_ ?_
  · clear c3 r2 q hset hN
    generalize k2_law_wider = kk2 at *
    generalize fdD F = FD at *
    generalize doL g = L at *
    generalize gD g = gd at *
    generalize T = T' at *
    walk_at "fi"
  refine wb_step (E1 := ⟨[.ow (WL ds i' l), .sh (gD g), s2, .sh (.int many), .ow (fdD F), .sh (.int t), .ow (.lst (xs.map fun x : Nat => D.int x)), .sh (.tup [.str [100, 111, 105, 110, 103], .str ro.s, .tup (rs.map .str)]), .un, .un], [0]⟩) ?_ ?_
  · clear c1 r1 r2 q hset hN
    generalize k1_law_wider = kk1 at *
    generalize fdD F = FD at *
    generalize (xs.map fun x : Nat => D.int x) = X at *
    generalize gD g = gd at *
    generalize T = T' at *
    walk_at "fi"
  have hms : (xs.set kk many).map (fun x : Nat => D.int x) = (xs.map fun x : Nat => D.int x).set kk (.int many) := by rw [List.map_set]
  refine wb_step (E1 := ⟨[.ow (WL ds (i' + 1) l), .sh (gD g), s2, .sh (.int many), .ow (fdD F), .sh (.int t), .ow (.lst ((xs.set kk many).map fun x : Nat => D.int x)), .sh (.tup [.str [100, 111, 105, 110, 103], .str ro.s, .tup (rs.map .str)]), .un, .un], [0]⟩) ?_ ?_
  · clear c1 c3 r1 r2 q hset
    rw [hms]
    clear hms
    generalize fdD F = FD at *
    generalize gD g = gd at *
    generalize T = T' at *
    walk_at "fi"
  have hl2 : ((xs.set kk many).map fun x : Nat => D.int x).length ≤ 16777216 := by rw [List.length_map, List.length_set]; exact hxl
  clear c1 c3 r1 hN hms
  unfold fcD at hset
  simp only at hset q
  generalize (tm, ro.s, xs.set kk many) = fc at *
  generalize ((xs.set kk many).map fun x : Nat => D.int x) = X at *
  generalize fdD F = FD at *
  generalize fdD (putF F fc) = FD2 at *
  generalize gD g = gd at *
  generalize T = T' at *
  walk_at "fs"
/-- the wider model -/
structure Wdr (g : List Rw) (m m' : Mdl) : Prop where
  many : m'.many = m.many + 1
  kinds : m'.kinds = m.kinds
  names : m'.names = m.names
  spk : m'.spk = m.spk
  hrr : m'.hrr = m.hrr
  facts : ∀ f ∈ m'.facts, FcOk g (m.many + 1) f ∧ (f ∈ m.facts ∨ m.many ∈ f.2.2)
  all : ∀ f ∈ m.facts, f ∈ m'.facts
  fl : m'.facts.length ≤ 100
  fa : Asc (m'.facts.map fcD)
theorem fcOk_more {g : List Rw} {k : Nat} {f : Fc} (h : FcOk g k f) : FcOk g (k + 1) f := by
  obtain ⟨h1, rs, h2, h3, h4, h5, h6⟩ := h
  exact ⟨h1, rs, h2, h3, h4, h5, fun x hx => by have := h6 x hx; omega⟩
theorem draws_wider (N : Nat) {g : List Rw} (hg : GrOk g) (ds : List Int) (i : Nat) (l : Int) (m : Mdl) (hm : DrMod g m) :
    ∃ (m' : Mdl) (i' : Nat), Wdr g m m' ∧ Fi.run T G (N + 3) "_law_wider" [(true, WL ds i l), (false, gD g), (false, mD m)] = some (.sh (mD m'), [.ow (WL ds i' l), .sh (gD g), .sh (mD m)]) := by
  have key : ∃ rr ss, Fi.run T G (N + 3) "_law_wider" [(true, WL ds i l), (false, gD g), (false, mD m)] = some (rr, ss) ∧ ∃ (m' : Mdl) (i' : Nat), Wdr g m m' ∧ rr = .sh (mD m') ∧ ss = [.ow (WL ds i' l), .sh (gD g), .sh (mD m)] := by
    refine run_wb (fn := f_law_wider) (E0 := ⟨[.ow (WL ds i l), .sh (gD g), .sh (mD m), .un, .un, .un, .un, .un, .un, .un], [0]⟩) rfl rfl rfl ?_
    show WB _ c_law_wider _ (Done 3 _)
    generalize hP : (fun (rr : Rs) (ss : List Sl) => ∃ (m' : Mdl) (i' : Nat), Wdr g m m' ∧ rr = .sh (mD m') ∧ ss = [.ow (WL ds i' l), .sh (gD g), .sh (mD m)]) = P
    have fin : ∀ (m' : Mdl) (i' : Nat), Wdr g m m' → P (.sh (mD m')) [.ow (WL ds i' l), .sh (gD g), .sh (mD m)] := fun m i' h => by rw [← hP]; exact ⟨m, i', h, rfl, rfl⟩
    clear hP
    unfold c_law_wider
    have hl := hm.fl
    have ck : evE (ctxOf T G (N + 2)) k3_law_wider ⟨[.ow (WL ds i l), .sh (gD g), .sh (mD m), .un, .un, .un, .un, .un, .un, .un], [0]⟩ = some (.ow (.lst (m.facts.map fun f => .tup [fcD f, .bl true])), ⟨[.ow (WL ds i l), .sh (gD g), .sh (mD m), .un, .un, .un, .un, .un, .un, .un], [0]⟩) := by
      refine cmp_map fcD (fun f => .tup [fcD f, .bl true]) m.facts (l := none) (E1 := ⟨[.ow (WL ds i l), .sh (gD g), .sh (mD m), .un, .un, .un, .un, .un, .un, .un], [0]⟩) ?_ rfl (fun f _ => ?_) (by unfold bigLine; omega) rfl
      · unfold mD
        clear fin hm
        generalize T = T' at *
        generalize gD g = gd at *
        walk_at "fi"
      · clear fin hm
        generalize fcD f = fd at *
        generalize mD m = md at *
        generalize T = T' at *
        generalize gD g = gd at *
        walk_at "fi"
    have hd := dict_facts m.facts hm.fnd
    refine wb_step (E1 := ⟨[.ow (WL ds i l), .sh (gD g), .sh (mD m), .sh (.int m.many), .ow (fdD m.facts), .un, .un, .un, .un, .un], [0]⟩) ?_ ?_
    · have db : ∀ ds, bltD .dict ds = dictB ds := fun _ => rfl
      clear fin hm
      generalize k3_law_wider = kk at *
      generalize hX : (m.facts.map fun f => D.tup [fcD f, .bl true]) = X at *
      clear hX
      generalize fdD m.facts = FD at *
      unfold mD at *
      generalize T = T' at *
      generalize gD g = gd at *
      walk_at "fi"
    rw [WB_cons]
    refine ws_for (fun k : Nat => D.int k) (List.range 6) (l := none) (E1 := ⟨[.ow (WL ds i l), .sh (gD g), .sh (mD m), .sh (.int m.many), .ow (fdD m.facts), .un, .un, .un, .un, .un], [0]⟩)
      (I := fun pre E' => ∃ (i : Nat) (F : List Fc) (j5 j6 j7 : Sl), E' = ⟨[.ow (WL ds i l), .sh (gD g), .sh (mD m), .sh (.int m.many), .ow (fdD F), j5, j6, j7, .un, .un], [0]⟩ ∧ j5.nlk = true ∧ j6.nlk = true ∧ j7.nlk = true ∧ F.length ≤ 20 + pre.length ∧ F.Nodup ∧ (∀ f ∈ F, FcOk g (m.many + 1) f ∧ (f ∈ m.facts ∨ m.many ∈ f.2.2)) ∧ ∀ f ∈ m.facts, f ∈ F)
      ?_ ⟨i, m.facts, .un, .un, .un, rfl, rfl, rfl, rfl, by simp; omega, hm.fnd, fun f hf => ⟨fcOk_more (hm.facts f hf), .inl hf⟩, fun f hf => hf⟩ ?_ ?_
    · refine evI_rng (n := 6) ?_ (by omega)
      clear fin hm hd ck
      generalize fdD m.facts = FD at *
      generalize mD m = md at *
      generalize T = T' at *
      generalize gD g = gd at *
      walk_at "fi"
    · rintro pre t post E' hx ⟨i, F, j5, j6, j7, rfl, h5, h6, h7, hFl, hFn, hFk, hFa⟩
      have hpl : pre.length ≤ 6 := by have := congrArg List.length hx; simp at this; omega
      refine wider_turn N hg ds i l m.many F (by omega) _ j5 j6 j7 h5 h6 h7 t _ fun i' f j5 j6 j7 h5 h6 h7 hf hmf => ?_
      rw [Lp_nx]
      refine ⟨i', putF F f, j5, j6, j7, rfl, h5, h6, h7, by have := putF_len F f; simp; omega, putF_nodup hFn, fun x hx => ?_, fun x hx => putF_mem.mpr (.inl (hFa x hx))⟩
      rcases putF_mem.mp hx with h | rfl
      · exact hFk x h
      · exact ⟨hf, .inr hmf⟩
    · rintro E' ⟨i2, F, j5, j6, j7, rfl, h5, h6, h7, hFl, hFn, hFk, hFa⟩
      rw [show ∀ X, unlock X none = X from fun _ => rfl, cont_nx]
      obtain ⟨fs, f1, f2, f3⟩ := sort_facts F hFn
      have hFl' : F.length ≤ 26 := by simp at hFl; omega
      have q := fin ⟨m.many + 1, m.kinds, m.names, fs, m.spk, m.hrr⟩ i2 ⟨rfl, rfl, rfl, rfl, rfl, fun f hf => hFk f (f2.mem_iff.mp hf), fun f hf => f2.mem_iff.mpr (hFa f hf), by show fs.length ≤ 100; rw [f2.length_eq]; omega, f3⟩
      unfold mD tModel at *
      simp only at q
      have z0 : ((m.many + 1 : Nat) : Int) = (m.many : Int) + 1 := by omega
      rw [z0] at q
      clear fin hm hd ck hFk hFn hFa f2 f3 z0
      generalize m.kinds.map prD = A at *
      generalize m.names.map prD = B at *
      generalize m.facts.map fcD = B2 at *
      generalize fs.map fcD = CC at *
      generalize fdD F = FD at *
      generalize gD g = gd at *
      generalize T = T' at *
      walk_at "fs"
  obtain ⟨rr, ss, h, m, i', h1, rfl, rfl⟩ := key
  exact ⟨m, i', h1, h⟩
end K56
end

section
set_option maxRecDepth 100000
set_option maxHeartbeats 4000000
namespace K56
open PySem L2 Fi
/-! ### a drawn ground's glosses -/
theorem rowOf_mem {g : List Rw} {s : Txt} {r : Rw} (h : rowOf g s = some r) : r ∈ g ∧ r.s = s := by
  unfold rowOf at h
  exact ⟨List.mem_of_find?_eq_some h, by simpa using List.find?_some h⟩
theorem rowOf_row : ∀ {g : List Rw}, (g.map (·.s)).Nodup → ∀ {r : Rw}, r ∈ g → rowOf g r.s = some r
  | [], _, r, h => by simp at h
  | x :: g, hn, r, h => by
    rw [List.map_cons, List.nodup_cons] at hn
    unfold rowOf
    rw [List.find?_cons]
    rcases List.mem_cons.mp h with rfl | h
    · simp
    · have : ¬ x.s = r.s := fun e => hn.1 (e ▸ List.mem_map_of_mem h)
      rw [show decide (x.s = r.s) = false by simpa using this]
      exact rowOf_row hn.2 h
def gloOf (g : List Rw) (s : Txt) : Option Fil := match rowOf g s with
  | none => none
  | some r => if r.k = tGloss then (if r.s = [112, 117, 112] then some fPup else some fWatch) else none
theorem gloss_row {g : List Rw} (hg : GrOk g) {r : Rw} (h : r ∈ g) (hk : r.k = tGloss) : r = rPup ∨ r = rWatch := by
  rcases hg.row r h with ⟨h3, _⟩ | ⟨rs, h3, _⟩ | h3 | h3
  · rw [hk] at h3; exact absurd h3 (by decide)
  · rw [h3] at hk; exact absurd hk (by simp [rDo, tGloss])
  · exact .inl h3
  · exact .inr h3
theorem gloIs_of {g : List Rw} (hg : GrOk g) : gloIs g (gloOf g) := by
  refine ⟨fun r hr hk => ?_, fun s => ?_⟩
  · rcases gloss_row hg hr hk with rfl | rfl <;> simp [rPup, rWatch]
  · unfold partOf gloOf
    cases hro : rowOf g s with
    | none => rfl
    | some r =>
      simp only
      by_cases hk : r.k = tGloss
      · rw [if_pos hk, if_pos hk]
        rcases gloss_row hg (rowOf_mem hro).1 hk with rfl | rfl
        · rw [if_pos (show rPup.s = [112, 117, 112] from rfl)]; rfl
        · rw [if_neg (show ¬ rWatch.s = [112, 117, 112] by simp [rWatch])]; rfl
      · rw [if_neg hk, if_neg hk]
theorem do_ne {g : List Rw} (hg : GrOk g) : ∀ r ∈ g, r.k = tDoing → r.more ≠ [] := by
  intro r hr hk
  obtain ⟨rs, h, _⟩ := doL_row hg (r := r) (by unfold doL; rw [List.mem_filter, decide_eq_true_eq]; exact ⟨hr, hk⟩)
  rw [h]
  simp [rDo]
theorem gloOf_row {g : List Rw} (hg : GrOk g) {r : Rw} (hr : r ∈ g) (hk : r.k ≠ tGloss) : gloOf g r.s = none := by
  unfold gloOf
  rw [rowOf_row hg.nodup hr]
  simp only
  rw [if_neg hk]
theorem gloOf_cases (g : List Rw) (s : Txt) : gloOf g s = none ∨ gloOf g s = some fPup ∨ gloOf g s = some fWatch := by
  unfold gloOf
  split
  · exact .inl rfl
  · split
    · split
      · exact .inr (.inl rfl)
      · exact .inr (.inr rfl)
    · exact .inl rfl
theorem kindOf_row {g : List Rw} (hg : GrOk g) {r : Rw} (hr : r ∈ g) : kindOf g r.s = .str r.k := by
  unfold kindOf
  rw [rowOf_row hg.nodup hr]
theorem kindOf_L {g : List Rw} (hg : GrOk g) {ks : List Txt} {s : Txt} (h : s ∈ kindL g ks) : ∃ k, kindOf g s = .str k ∧ k ∈ ks := by
  obtain ⟨r, h1, h2, rfl⟩ := mem_kindL.mp h
  exact ⟨r.k, kindOf_row hg h1, h2⟩
/-! ### models -/
theorem mem_lookup {ps : List (Txt × Nat)} {s : Txt} (h : s ∈ ps.map (·.1)) : ∃ k, ps.lookup s = some k := by
  induction ps with
  | nil => simp at h
  | cons p ps ih =>
    obtain ⟨a, b⟩ := p
    rw [List.lookup_cons]
    by_cases e : s = a
    · subst e; exact ⟨b, by simp⟩
    · rw [show (s == a) = false by simpa using e]
      rw [List.map_cons, List.mem_cons] at h
      exact ih (h.resolve_left e)
theorem lookup_mem {ps : List (Txt × Nat)} {s : Txt} {k : Nat} (h : ps.lookup s = some k) : (s, k) ∈ ps := by
  induction ps with
  | nil => simp at h
  | cons p ps ih =>
    obtain ⟨a, b⟩ := p
    rw [List.lookup_cons] at h
    by_cases e : s = a
    · subst e
      simp at h
      simp [h]
    · rw [show (s == a) = false by simpa using e] at h
      exact List.mem_cons_of_mem _ (ih h)
theorem okM_of {g : List Rw} (hg : GrOk g) {m : Mdl} (m1 : 1 ≤ m.many) (m4 : m.many ≤ 4) (hk : ∀ p ∈ m.kinds, p.1 ∈ kindL g [[116, 104, 105, 110, 103], [113, 117, 97, 108, 105, 116, 121]] ∧ p.2 < m.many) (kl : m.kinds.length ≤ 100) (ka : m.kinds.Pairwise prLt)
    (nu : sortC ((kindL g [[110, 97, 109, 101]]).map .str) = some (.fr (.lst ((m.names.map (·.1)).map .str))) ∧ (m.names.map (·.1)).Perm (kindL g [[110, 97, 109, 101]]) ∧ (m.names.map (·.1)).Pairwise (· < ·)) (nv : ∀ p ∈ m.names, p.2 < m.many)
    (hf : ∀ f ∈ m.facts, FcOk g m.many f) (fl : m.facts.length ≤ 100) (fa : Asc (m.facts.map fcD)) (s : m.spk < m.many) (h : m.hrr < m.many) : OkM g m := by
  refine ⟨m1, m4, fun p hp => ?_, by omega, asc_of prD lt_pr _ ka, fun p hp => ?_, ?_, ?_, ?_, fun f hfm => ?_, by omega, fa, s, h⟩
  · obtain ⟨k, h1, h2⟩ := kindOf_L hg (hk p hp).1
    exact ⟨k, h1, h2, (hk p hp).2⟩
  · obtain ⟨k, h1, h2⟩ := kindOf_L hg (nu.2.1.mem_iff.mp (List.mem_map_of_mem hp))
    exact ⟨k, h1, h2, nv p hp⟩
  · have e1 := nu.2.1.length_eq
    have e2 := len_kindL hg [[110, 97, 109, 101]]
    rw [List.length_map] at e1
    omega
  · refine asc_of prD lt_pr _ ?_
    have := nu.2.2
    rw [List.pairwise_map] at this
    exact this.imp fun h => .inl h
  · show sortC _ = _
    have e : ((g.filter fun r => decide (r.k = tName)).map fun r => D.str r.s) = (kindL g [[110, 97, 109, 101]]).map .str := by
      unfold kindL
      rw [List.map_map]
      have : (fun r : Rw => decide (r.k = tName)) = fun r => decide (r.k ∈ [[110, 97, 109, 101]]) := by
        funext r
        rw [Bool.eq_iff_iff, decide_eq_true_iff, decide_eq_true_iff, List.mem_singleton]
        exact Iff.rfl
      rw [this]
      rfl
    rw [e, nu.1, List.map_map]
    rfl
  · obtain ⟨h1, rs, h2, h3, _, h5, h6⟩ := hf f hfm
    refine ⟨h1, kindOf_row hg h2, ⟨rs.map .str, ?_, by rw [List.length_map]; exact h3⟩, h6, by omega⟩
    unfold partOf
    rw [show f.2.1 = (rDo f.2.1 rs).s from rfl, rowOf_row hg.nodup h2]
    rfl
theorem DrMod.ok {g : List Rw} (hg : GrOk g) {m : Mdl} (h : DrMod g m) : OkM g m :=
  okM_of hg h.m1 (by have := h.m3; omega) h.kinds h.kl h.ka h.nu h.nv h.facts (by have := h.fl; omega) h.fa h.s h.h
theorem Wdr.ok {g : List Rw} (hg : GrOk g) {m m' : Mdl} (h : DrMod g m) (w : Wdr g m m') : OkM g m' :=
  okM_of hg (by rw [w.many]; omega) (by rw [w.many]; have := h.m3; omega) (fun p hp => by rw [w.kinds] at hp; rw [w.many]; have := h.kinds p hp; exact ⟨this.1, by omega⟩) (by rw [w.kinds]; exact h.kl) (by rw [w.kinds]; exact h.ka)
    (by rw [w.names]; exact h.nu) (fun p hp => by rw [w.names] at hp; rw [w.many]; have := h.nv p hp; omega) (fun f hf => by rw [w.many]; exact (w.facts f hf).1) w.fl w.fa (by rw [w.spk, w.many]; have := h.s; omega) (by rw [w.hrr, w.many]; have := h.h; omega)
/-! ### drawn fillers are deep enough -/
theorem name_ok {g : List Rw} {m : Mdl} (hp : (m.names.map (·.1)).Perm (kindL g [[110, 97, 109, 101]])) {s : Txt} (h : s ∈ kindL g [[110, 97, 109, 101]]) : ∃ k, m.names.lookup s = some k := mem_lookup (hp.mem_iff.mpr h)
theorem stone_deep {g : List Rw} (hg : GrOk g) (m : Mdl) (u : Nat) : deep (gloOf g) m (u + 1) fStone := by
  refine ⟨by simp, by simp, fun gl h => ?_, by simp⟩
  rw [show ([115, 116, 111, 110, 101] : Txt) = (rThing [115, 116, 111, 110, 101]).s from rfl, gloOf_row hg hg.stone (by simp [rThing, tGloss])] at h
  cases h
theorem pup_deep {g : List Rw} (hg : GrOk g) (m : Mdl) (u : Nat) : deep (gloOf g) m (u + 1) fPup := by
  refine ⟨by simp, by simp, fun gl h => ?_, by simp⟩
  rw [show ([100, 111, 103] : Txt) = (rThing [100, 111, 103]).s from rfl, gloOf_row hg hg.dog (by simp [rThing, tGloss])] at h
  cases h
theorem watch_deep {g : List Rw} (hg : GrOk g) (m : Mdl) (u : Nat) : deep (gloOf g) m (u + 2) fWatch := by
  refine ⟨by simp, by simp, fun gl h => ?_, fun mr hm => ?_⟩
  · rw [show ([100, 111, 103] : Txt) = (rThing [100, 111, 103]).s from rfl, gloOf_row hg hg.dog (by simp [rThing, tGloss])] at h
    cases h
  · rw [List.mem_singleton] at hm
    subst hm
    refine ⟨by simp, fun f hf => ?_⟩
    simp only [List.mem_cons, List.not_mem_nil, or_false] at hf
    rcases hf with rfl | rfl
    · exact trivial
    · exact stone_deep hg m u
theorem dr_deep {g : List Rw} (hg : GrOk g) (m : Mdl) (hp : (m.names.map (·.1)).Perm (kindL g [[110, 97, 109, 101]])) : ∀ (r : Nat) (f : Fil), Dr g r f → deep (gloOf g) m (r + 3) f
  | r, .one w, _ => trivial
  | r, .name s, h => name_ok hp (by cases r <;> exact h)
  | 0, .thing s num fix qs ms, ⟨h1, h2, h3, h4, h5, _, h6⟩ => by
    refine ⟨by omega, by rw [h6]; simp, fun gl h => ?_, by rw [h6]; simp⟩
    rcases gloOf_cases g s with e | e | e <;> rw [e] at h <;> cases h
    · exact ⟨rfl, pup_deep hg m 1⟩
    · exact ⟨rfl, watch_deep hg m 0⟩
  | r + 1, .thing s num fix qs ms, ⟨h1, h2, h3, h4, h5, _, h6, _, h7⟩ => by
    refine ⟨by omega, by omega, fun gl h => ?_, fun mr hm => ?_⟩
    · rcases gloOf_cases g s with e | e | e <;> rw [e] at h <;> cases h
      · exact ⟨rfl, pup_deep hg m (r + 2)⟩
      · exact ⟨rfl, watch_deep hg m (r + 1)⟩
    · obtain ⟨_, _, _, _, a5, a6⟩ := DrM_len hg (h7 mr hm)
      refine ⟨a5, fun f hf => ?_⟩
      rcases a6 f hf with h | h
      · rw [h]; exact trivial
      · exact dr_deep hg m hp r f h
theorem ones_thing {u : Nat} {glo : Txt → Option Fil} {s num fix : Txt} {qs : List Txt} {ms : List Mr} (h1 : ∀ gl, glo s = some gl → okOnes u glo gl) (h2 : ∀ mr ∈ ms, ∀ f ∈ mr.2.2.2.2.2, okOnes u glo f) : okOnes (u + 1) glo (.thing s num fix qs ms) :=
  ⟨fun w e => (by cases e), fun s' num' fix' qs' ms' e => (by cases e; exact ⟨h1, h2⟩)⟩
theorem ones_one {glo : Txt → Option Fil} {w : Txt} (h : w ≠ tName ∧ w ≠ tThing) : ∀ u, okOnes u glo (.one w)
  | 0 => fun w' e => by cases e; exact h
  | u + 1 => ⟨fun w' e => (by cases e; exact h), fun _ _ _ _ _ e => by cases e⟩
theorem ones_name {glo : Txt → Option Fil} {s : Txt} : ∀ u, okOnes u glo (.name s)
  | 0 => fun w' e => by cases e
  | u + 1 => ⟨fun w' e => (by cases e), fun _ _ _ _ _ e => by cases e⟩
theorem ones_zero {glo : Txt → Option Fil} {s num fix : Txt} {qs : List Txt} {ms : List Mr} : okOnes 0 glo (.thing s num fix qs ms) := fun w' e => by cases e
theorem stone_ones {g : List Rw} (hg : GrOk g) : ∀ u, okOnes u (gloOf g) fStone
  | 0 => ones_zero
  | u + 1 => ones_thing (fun gl h => by
      rw [show ([115, 116, 111, 110, 101] : Txt) = (rThing [115, 116, 111, 110, 101]).s from rfl, gloOf_row hg hg.stone (by simp [rThing, tGloss])] at h
      cases h) (by simp)
theorem pup_ones {g : List Rw} (hg : GrOk g) : ∀ u, okOnes u (gloOf g) fPup
  | 0 => ones_zero
  | u + 1 => ones_thing (fun gl h => by
      rw [show ([100, 111, 103] : Txt) = (rThing [100, 111, 103]).s from rfl, gloOf_row hg hg.dog (by simp [rThing, tGloss])] at h
      cases h) (by simp)
theorem watch_ones {g : List Rw} (hg : GrOk g) : ∀ u, okOnes u (gloOf g) fWatch
  | 0 => ones_zero
  | u + 1 => ones_thing (fun gl h => by
      rw [show ([100, 111, 103] : Txt) = (rThing [100, 111, 103]).s from rfl, gloOf_row hg hg.dog (by simp [rThing, tGloss])] at h
      cases h) (fun mr hm f hf => by
      rw [List.mem_singleton] at hm
      subst hm
      simp only [List.mem_cons, List.not_mem_nil, or_false] at hf
      rcases hf with rfl | rfl
      · exact ones_one (by decide) u
      · exact stone_ones hg u)
theorem dr_ones {g : List Rw} (hg : GrOk g) : ∀ (u r : Nat) (f : Fil), Dr g r f → okOnes u (gloOf g) f
  | u, r, .one w, h => ones_one (by
      have h : w = [115, 112, 101, 97, 107, 101, 114] ∨ w = [104, 101, 97, 114, 101, 114] := by cases r <;> exact h
      rcases h with rfl | rfl <;> decide) u
  | u, r, .name s, _ => ones_name u
  | 0, r, .thing .., _ => ones_zero
  | u + 1, r, .thing s num fix qs ms, h => by
    refine ones_thing (fun gl e => ?_) fun mr hm f hf => ?_
    · rcases gloOf_cases g s with z | z | z <;> rw [z] at e <;> cases e
      · exact pup_ones hg u
      · exact watch_ones hg u
    · cases r with
      | zero => rw [h.2.2.2.2.2.2] at hm; simp at hm
      | succ r =>
        obtain ⟨_, _, _, _, _, a6⟩ := DrM_len hg (h.2.2.2.2.2.2.2.2 mr hm)
        rcases a6 f hf with z | z
        · rw [z]; exact ones_one (by decide) u
        · exact dr_ones hg u r f z
end K56
end

section
set_option maxRecDepth 100000
set_option maxHeartbeats 4000000
namespace K56
open PySem L2 Fi
/-! ### truth in the wider model -/
section
variable {g : List Rw} {m m' : Mdl}
theorem ind_lt (hm : DrMod g m) {x : Nat} (hx : x < m.many) {f : Fil} (hf : ∀ s, f = .name s → ∃ k, m.names.lookup s = some k) : ind m x f < m.many := by
  cases f with
  | one w =>
    unfold ind
    simp only
    split
    · exact hm.s
    · split
      · exact hm.h
      · exact hx
  | name s =>
    obtain ⟨k, hk⟩ := hf s rfl
    unfold ind
    simp only
    rw [hk]
    exact hm.nv _ (lookup_mem hk)
  | thing => exact hm.m1
theorem ind_wide (w : Wdr g m m') (x : Nat) (f : Fil) : ind m' x f = ind m x f := by
  cases f with
  | one t => unfold ind; simp only; rw [w.spk, w.hrr]
  | name s => unfold ind; simp only; rw [w.names]
  | thing => rfl
theorem filter_wide {n : Nat} {S S' : Nat → Bool} (h1 : ∀ y < n, S' y = S y) (h2 : S' n = false) : (List.range (n + 1)).filter S' = (List.range n).filter S := by
  rw [List.range_succ, List.filter_append, List.filter_cons, h2]
  simp only [Bool.false_eq_true, if_false, List.filter_nil, List.append_nil]
  refine List.filter_congr fun y hy => h1 y (by simpa using hy)
theorem goes_wide (hm : DrMod g m) (w : Wdr g m m') {S S' : Fil → Nat → Bool} (t d : Txt) (x : Nat) (hx : x < m.many) : ∀ (fs : List Fil) (b : List Nat), (∀ y ∈ b, y < m.many) →
    (∀ f ∈ fs, (∀ s, f = .name s → ∃ k, m.names.lookup s = some k) ∧ (f.isThing = true → (∀ y < m.many, S' f y = S f y) ∧ S' f m.many = false)) → goes m' S' t d x fs b = goes m S t d x fs b
  | [], b, hb, _ => by
    rw [goes, goes]
    rw [Bool.eq_iff_iff, decide_eq_true_iff, decide_eq_true_iff]
    constructor
    · intro h
      rcases (w.facts _ h).2 with h | h
      · exact h
      · exact absurd (hb _ h) (Nat.lt_irrefl _)
    · exact w.all _
  | .one t' :: fs, b, hb, hf => by
    rw [goes, goes, ind_wide w]
    refine goes_wide hm w t d x hx fs _ (fun y hy => ?_) fun f h => hf f (by simp [h])
    rw [List.mem_append, List.mem_singleton] at hy
    rcases hy with hy | rfl
    · exact hb y hy
    · exact ind_lt hm hx (hf _ (by simp)).1
  | .name s :: fs, b, hb, hf => by
    rw [goes, goes, ind_wide w]
    refine goes_wide hm w t d x hx fs _ (fun y hy => ?_) fun f h => hf f (by simp [h])
    rw [List.mem_append, List.mem_singleton] at hy
    rcases hy with hy | rfl
    · exact hb y hy
    · exact ind_lt hm hx (hf _ (by simp)).1
  | .thing s num fix qs ms :: fs, b, hb, hf => by
    rw [goes, goes]
    obtain ⟨h1, h2⟩ := (hf (.thing s num fix qs ms) (by simp)).2 rfl
    rw [w.many, filter_wide h1 h2]
    congr 2
    refine List.filter_congr fun y hy => ?_
    rw [List.mem_filter, List.mem_range] at hy
    refine goes_wide hm w t d x hx fs _ (fun z hz => ?_) fun f h => hf f (by simp [h])
    rw [List.mem_append, List.mem_singleton] at hz
    rcases hz with hz | rfl
    · exact hb z hz
    · exact hy.1
theorem such_wide (glo : Txt → Option Fil) (hm : DrMod g m) (w : Wdr g m m') : ∀ (u : Nat) (f : Fil), deep glo m u f → (∀ y < m.many, such glo m' u f y = such glo m u f y) ∧ such glo m' u f m.many = false
  | 0, f, _ => by cases f <;> exact ⟨fun _ _ => rfl, rfl⟩
  | u + 1, .one _, _ => ⟨fun _ _ => rfl, rfl⟩
  | u + 1, .name _, _ => ⟨fun _ _ => rfl, rfl⟩
  | u + 1, .thing s num fix qs ms, hd => by
    obtain ⟨_, _, d3, d4⟩ := hd
    have hk : ∀ s, (s, m.many) ∉ m.kinds := fun s h => Nat.lt_irrefl _ (hm.kinds _ h).2
    have hmr : ∀ y < m.many, ∀ mr ∈ ms, tru m' (such glo m' u) mr.2 y = tru m (such glo m u) mr.2 y := by
      intro y hy mr hmr
      unfold tru
      rw [goes_wide hm w _ _ y hy mr.2.2.2.2.2 [] (by simp) fun f hf => ⟨deep_lift glo m u f ((d4 mr hmr).2 f hf), fun _ => such_wide glo hm w u f ((d4 mr hmr).2 f hf)⟩]
    refine ⟨fun y hy => ?_, ?_⟩
    · rw [such, such, w.kinds]
      congr 1
      · cases hc : glo s with
        | none => rfl
        | some gl =>
          simp only
          rw [(such_wide glo hm w u gl (d3 gl hc).2).1 y hy]
      · rw [Bool.eq_iff_iff, List.all_eq_true, List.all_eq_true]
        exact ⟨fun h mr hr => (hmr y hy mr hr) ▸ h mr hr, fun h mr hr => (hmr y hy mr hr).symm ▸ h mr hr⟩
    · rw [such, w.kinds]
      cases hc : glo s with
      | none =>
        simp only
        rw [decide_eq_false (hk s)]
        rfl
      | some gl =>
        simp only
        rw [(such_wide glo hm w u gl (d3 gl hc).2).2]
        rfl
end
end K56
end

section
set_option maxRecDepth 100000
set_option maxHeartbeats 4000000
namespace K56
open PySem L2 Fi
local macro_rules | `(tactic| walk_at "fi") => `(tactic| simp [WB_cons, WB_nil, WS_asg, WS_par, WS_aug, WS_augIx, WS_setIx, WS_ex, WS_ret, WS_retN, WS_brk, WS_cnt, WS_pas, WS_ite, iteQ_some, iteT_t, iteT_f, cont_nx, cont_rt, cont_bk, cont_ct, Lp_nx, Lp_ct, Lp_rt, Lp_bk, Lw_nx, Lw_ct, Lw_rt, Lw_bk, WT, Done_rt, Done_nx, giveD_sh, giveD_ow, giveD_pk, finsD, rg0, rg1, rg2, rg3, rg4, rg5, rg6, evS, evE, evEs, evO, evT, evI, evFs, Env.tkf, putp, Env.get, Env.put, Env.vw, Env.rd, Env.tk, Env.tks, Env.free, Rs.fz, op2D, addD, subD, mulD, fdivD, modD, powD, cmpA, ordD, nlk_un, nlk_sh, nlk_ow, nlk_lk, isD, iopD, iaddD, inopD, iaddI, op1D, PR.rs, D.truth, D.len, ixD, ix, partD, cutD, revD, lenB, absB, intB, tupleB, listB, anyB, allB, isinstB, bltD, getB, mthD, mthTy, appendB, extendB, popB, mutD, mutTy, setD, D.key, DKey.ok, tyNames, D.tyName, tySub, lock, unlock, lkFree, seqD, puts, bindT, Tg.slots, wipeE, back, argsOf, lent, lentOk, Ar.pass, behind, dk_ss, dk_ii, dk_si, dk_is, bigLine, ownOk, mapOut, turnF, dictAt, lockVar, hide, unhide, bls, inD, D.isNon, List.lookup, ctx_call, io_row_of, io_kind_of, io_roles_of, io_gloss_of, io_senses_of_kind, io_is_such, io_such_ones, io_individual_of, io_is_reached, io_goes_on, io_true_of, io_true_in, io_answer_in, io_is_number, io_is_ascending, io_is_individual, io_is_pair, io_are_pairs, io_is_fact, io_are_facts, io_are_all_names, io_is_model, io_law_draws, io_law_next, io_law_pick, io_law_same, io_law_ground, io_law_of_kind, io_law_text_of, io_law_more_text, io_law_thing, io_law_more, io_law_filler, io_law_meaning, io_law_model, io_law_wider, io_law, *])
local macro_rules | `(tactic| walk_at "fs") => `(tactic| simp [WB_cons, WB_nil, WS_asg, WS_par, WS_aug, WS_augIx, WS_setIx, WS_ex, WS_ret, WS_retN, WS_brk, WS_cnt, WS_pas, WS_ite, iteQ_some, iteT_t, iteT_f, cont_nx, cont_rt, cont_bk, cont_ct, Lp_nx, Lp_ct, Lp_rt, Lp_bk, Lw_nx, Lw_ct, Lw_rt, Lw_bk, WT, Done_rt, Done_nx, giveD_sh, giveD_ow, giveD_pk, finsD, rg0, rg1, rg2, rg3, rg4, rg5, rg6, evS, evE, evEs, evO, evT, evI, evFs, Env.tkf, putp, Env.get, Env.put, Env.vw, Env.rd, Env.tk, Env.tks, Env.free, Rs.fz, op2D, addD, subD, mulD, fdivD, modD, powD, cmpA, ordD, nlk_un, nlk_sh, nlk_ow, nlk_lk, isD, iopD, iaddD, inopD, iaddI, op1D, PR.rs, D.truth, D.len, ixD, ix, partD, cutD, revD, lenB, absB, intB, tupleB, listB, anyB, allB, isinstB, bltD, getB, mthD, mthTy, appendB, extendB, popB, mutD, mutTy, tyNames, D.tyName, tySub, lock, unlock, lkFree, seqD, puts, bindT, Tg.slots, wipeE, back, argsOf, lent, lentOk, Ar.pass, behind, dk_ss, dk_ii, dk_si, dk_is, bigLine, ownOk, mapOut, turnF, dictAt, lockVar, hide, unhide, bls, inD, D.isNon, List.lookup, ctx_call, io_row_of, io_kind_of, io_roles_of, io_gloss_of, io_senses_of_kind, io_is_such, io_such_ones, io_individual_of, io_is_reached, io_goes_on, io_true_of, io_true_in, io_answer_in, io_is_number, io_is_ascending, io_is_individual, io_is_pair, io_are_pairs, io_is_fact, io_are_facts, io_are_all_names, io_is_model, io_law_draws, io_law_next, io_law_pick, io_law_same, io_law_ground, io_law_of_kind, io_law_text_of, io_law_more_text, io_law_thing, io_law_more, io_law_filler, io_law_meaning, io_law_model, io_law_wider, io_law, *])
/-! ### the law -/
section
variable {g : List Rw} {r : Nat} {c : Cl}
theorem drC_len (h : DrC g r c) : c.2.2.2.2.length ≤ 3 := by
  obtain ⟨rs, fs0, _, _, h2, h3, _, _, _, h4⟩ := h
  rcases h4 with ⟨_, e⟩ | ⟨_, k, _, e⟩ | ⟨_, _, e⟩
  · rw [e]; omega
  · rw [e, List.length_set]; omega
  · rw [e, List.length_set]; omega
theorem drC_fil (h : DrC g r c) : ∀ f ∈ c.2.2.2.2, Dr g r f ∨ f = .one [119, 104, 105, 99, 104] := by
  obtain ⟨rs, fs0, _, _, _, _, h3, _, _, h4⟩ := h
  intro f hf
  rcases h4 with ⟨_, e⟩ | ⟨_, k, _, e⟩ | ⟨_, _, e⟩
  · rw [e] at hf; exact .inl (h3 f hf)
  · rw [e] at hf
    rcases List.mem_or_eq_of_mem_set hf with h | h
    · exact .inl (h3 f h)
    · exact .inr h
  · rw [e] at hf
    rcases List.mem_or_eq_of_mem_set hf with h | h
    · exact .inl (h3 f h)
    · subst h
      exact .inl (by cases r <;> exact .inr rfl)
/-- what is asked of a model to tell truths in it -/
structure Tm (g : List Rw) (m : Mdl) : Prop where
  nd : (m.names.map (·.1)).Nodup
  many : m.many ≤ 100
  perm : (m.names.map (·.1)).Perm (kindL g [[110, 97, 109, 101]])
theorem lt_nodup {xs : List Txt} (h : xs.Pairwise (· < ·)) : xs.Nodup := h.imp fun {a b} hab e => by subst e; exact absurd hab (List.lt_irrefl a)
theorem tm_of {m : Mdl} (h : DrMod g m) : Tm g m := ⟨lt_nodup h.nu.2.2, by have := h.m3; omega, h.nu.2.1⟩
theorem tm_wide {m m' : Mdl} (h : DrMod g m) (w : Wdr g m m') : Tm g m' := ⟨by rw [w.names]; exact lt_nodup h.nu.2.2, by rw [w.many]; have := h.m3; omega, by rw [w.names]; exact h.nu.2.1⟩
theorem such_run (hg : GrOk g) {m : Mdl} (tm : Tm g m) (hr : r ≤ 2) {f : Fil} (hf : Dr g r f) (ht : f.isThing = true) (n : Nat) (hn : 45 ≤ n) (k : Nat) : Fi.run T G n "is_such" [(false, gD g), (false, mD m), (false, filD f), (false, .int k)] = some (.sh (.bl (such (gloOf g) m (r + 3) f k)), [.sh (gD g), .sh (mD m), .sh (filD f), .sh (.int k)]) :=
  run_such g (gloOf g) (gloIs_of hg) m tm.nd tm.many (r + 3) f ht (dr_deep hg m tm.perm r f hf) (dr_ones hg (r + 3) r f hf) n (by omega) k
theorem ones_run (hg : GrOk g) {m : Mdl} (tm : Tm g m) (hr : r ≤ 2) {f : Fil} (hf : Dr g r f) (ht : f.isThing = true) (n : Nat) (hn : 46 ≤ n) : Fi.run T G n "such_ones" [(false, gD g), (false, mD m), (false, filD f)] = some (.sh (.tup (((List.range m.many).filter (such (gloOf g) m (r + 3) f)).map fun x : Nat => D.int x)), [.sh (gD g), .sh (mD m), .sh (filD f)]) := by
  obtain ⟨k, rfl⟩ : ∃ k, n = k + 1 := ⟨n - 1, by omega⟩
  exact run_such_ones k (gD g) (filD f) m _ tm.many fun x _ => such_run hg tm hr hf ht k (by omega) x
theorem tru_run (hg : GrOk g) {m : Mdl} (tm : Tm g m) (hr : r ≤ 2) (hc : DrC g r c) (xd : D) (x : Nat) (hx : xd = .int x ∨ c.2.2.2.2.any isWhich = false) (n : Nat) (hn : 52 ≤ n) : Fi.run T G n "true_of" [(false, gD g), (false, mD m), (false, clD c), (false, xd)] = some (.sh (.bl (tru m (such (gloOf g) m (r + 3)) c x)), [.sh (gD g), .sh (mD m), .sh (clD c), .sh xd]) := by
  refine run_tru g m (such (gloOf g) m (r + 3)) 45 xd x c tm.nd tm.many (drC_len hc) (fun f hf ht n hn k _ => ?_) (fun f hf s e => ?_) (fun f hf w e => ?_) n (by omega)
  · rcases drC_fil hc f hf with h | h
    · exact such_run hg tm hr h ht n hn k
    · rw [h] at ht; cases ht
  · rcases drC_fil hc f hf with h | h
    · subst e
      exact name_ok tm.perm (by cases r <;> exact h)
    · rw [h] at e; cases e
  · rcases drC_fil hc f hf with h | h
    · subst e
      have h : w = [115, 112, 101, 97, 107, 101, 114] ∨ w = [104, 101, 97, 114, 101, 114] := by cases r <;> exact h
      rcases h with rfl | rfl
      · exact ⟨by decide, by decide, .inl rfl⟩
      · exact ⟨by decide, by decide, .inr (.inl rfl)⟩
    · rw [h] at e
      cases e
      refine ⟨by decide, by decide, ?_⟩
      rcases hx with hx | hx
      · exact .inr (.inr hx)
      · rw [List.any_eq_false] at hx
        exact absurd (hx _ hf) (by rw [h]; simp [isWhich])
theorem tru_wide (hg : GrOk g) {m m' : Mdl} (hm : DrMod g m) (w : Wdr g m m') (hc : DrC g r c) (x : Nat) (hx : x < m.many) : tru m' (such (gloOf g) m' (r + 3)) c x = tru m (such (gloOf g) m (r + 3)) c x := by
  unfold tru
  rw [goes_wide hm w _ _ x hx c.2.2.2.2 [] (by simp) fun f hf => ?_]
  rcases drC_fil hc f hf with h | h
  · have hd := dr_deep hg m hm.nu.2.1 r f h
    exact ⟨deep_lift (gloOf g) m (r + 3) f hd, fun _ => such_wide (gloOf g) hm w (r + 3) f hd⟩
  · subst h
    exact ⟨fun s e => (by cases e), fun e => (by cases e)⟩
end
theorem gd_ints : ∀ xs : List Nat, Gds (xs.map fun x : Nat => D.int x) = true
  | [] => rfl
  | x :: xs => by rw [List.map_cons]; unfold Gds; rw [gd_ints xs]; rfl
theorem sz_ints : ∀ xs : List Nat, szs (xs.map fun x : Nat => D.int x) = xs.length
  | [] => rfl
  | x :: xs => by rw [List.map_cons]; unfold szs; rw [sz_ints xs]; simp [sz]; omega
theorem same_ints (n : Nat) (xs : List Nat) (h : xs.length ≤ 1000) : Fi.run T G (n + 1) "_law_same" [(false, .tup (xs.map fun x : Nat => D.int x)), (false, .tup (xs.map fun x : Nat => D.int x))] = some (.sh (.bl true), [.sh (.tup (xs.map fun x : Nat => D.int x)), .sh (.tup (xs.map fun x : Nat => D.int x))]) :=
  run_same rfl n _ (by unfold Gd; exact gd_ints xs) (by unfold sz; rw [sz_ints]; omega)
theorem same_bool (n : Nat) (b : Bool) : Fi.run T G (n + 1) "_law_same" [(false, .bl b), (false, .bl b)] = some (.sh (.bl true), [.sh (.bl b), .sh (.bl b)]) := run_same rfl n _ rfl (by simp [sz])
theorem own_other (C : Fi.Ctx) (w : Txt) (more : List D) (hw : w ≠ [116, 104, 105, 110, 103]) (s0 s1 s2 s3 s4 s5 s6 s7 j8 s9 s10 s11 : Sl) (h8 : j8.nlk = true) (Q : Out → Prop) (q : Q (.nx ⟨[s0, s1, s2, s3, s4, s5, s6, s7, .sh (.tup (.str w :: more)), s9, s10, s11], []⟩)) :
    WT C (.nm 8) b1_law (.tup (.str w :: more)) ⟨[s0, s1, s2, s3, s4, s5, s6, s7, j8, s9, s10, s11], []⟩ Q := by
  have hm : (0 : Int) < (more.length : Int) + 1 := by omega
  unfold b1_law
  walk_at "fi"
theorem own_thing (n : Nat) (T' : Str → Option Fn) (i1 : (ctxOf T' G n).io "_law_same" = [false, false]) (i2 : (ctxOf T' G n).io "such_ones" = [false, false, false]) (gd md wd L : D) (more : List D) (s0 s1 s2 s4 s6 j8 s9 s10 s11 : Sl) (h8 : j8.nlk = true) (Q : Out → Prop)
    (r1 : Fi.run T' G n "such_ones" [(false, gd), (false, wd), (false, .tup (.str [116, 104, 105, 110, 103] :: more))] = some (.sh L, [.sh gd, .sh wd, .sh (.tup (.str [116, 104, 105, 110, 103] :: more))]))
    (r2 : Fi.run T' G n "such_ones" [(false, gd), (false, md), (false, .tup (.str [116, 104, 105, 110, 103] :: more))] = some (.sh L, [.sh gd, .sh md, .sh (.tup (.str [116, 104, 105, 110, 103] :: more))]))
    (r3 : Fi.run T' G n "_law_same" [(false, L), (false, L)] = some (.sh (.bl true), [.sh L, .sh L]))
    (q : Q (.nx ⟨[s0, s1, s2, .sh gd, s4, .sh md, s6, .sh wd, .sh (.tup (.str [116, 104, 105, 110, 103] :: more)), s9, s10, s11], []⟩)) :
    WT (ctxOf T' G n) (.nm 8) b1_law (.tup (.str [116, 104, 105, 110, 103] :: more)) ⟨[s0, s1, s2, .sh gd, s4, .sh md, s6, .sh wd, j8, s9, s10, s11], []⟩ Q := by
  have hm : (0 : Int) < (more.length : Int) + 1 := by omega
  unfold b1_law
  walk_at "fi"
theorem cmp_less (C : Fi.Ctx) (s0 s1 s2 s3 s4 s6 s7 s8 s10 s11 : Sl) (a : D) (m : Mdl) (xs : List Nat) (hx : xs.length ≤ 1000) :
    evE C k1_law ⟨[s0, s1, s2, s3, s4, .sh (mD m), s6, s7, s8, .sh (.tup [a, .tup (xs.map fun x : Nat => D.int x)]), s10, s11], []⟩ = some (.ow (.lst ((xs.filter fun x => decide (x < m.many)).map fun x : Nat => D.int x)), ⟨[s0, s1, s2, s3, s4, .sh (mD m), s6, s7, s8, .sh (.tup [a, .tup (xs.map fun x : Nat => D.int x)]), s10, s11], []⟩) := by
  refine cmp_filter (fun k : Nat => D.int k) (fun k : Nat => D.int k) (fun x => decide (x < m.many)) xs (l := none) (E1 := ⟨[s0, s1, s2, s3, s4, .sh (mD m), s6, s7, s8, .sh (.tup [a, .tup (xs.map fun x : Nat => D.int x)]), s10, s11], []⟩) ?_ rfl (fun x _ => ?_) (by unfold bigLine; omega) rfl
  · walk_at "fi"
  · unfold mD
    by_cases h : x < m.many
    · have h2 : (x : Int) < (m.many : Int) := by omega
      walk_at "fi"
    · have h2 : ¬ (x : Int) < (m.many : Int) := by omega
      walk_at "fi"
theorem less_wide {n : Nat} {p p' : Nat → Bool} (h : ∀ x < n, p' x = p x) : ((List.range (n + 1)).filter p').filter (fun x => decide (x < n)) = (List.range n).filter p := by
  rw [List.range_succ, List.filter_append, List.filter_append]
  have e1 : (List.filter (fun x => decide (x < n)) (List.filter p' [n])) = [] := by
    rw [List.filter_eq_nil_iff]
    intro x hx
    rw [List.mem_filter, List.mem_singleton] at hx
    simp [hx.1]
  rw [e1, List.append_nil, List.filter_filter]
  refine List.filter_congr fun x hx => ?_
  rw [List.mem_range] at hx
  rw [h x hx, decide_eq_true hx]
  rfl
/-- behind the things: an ask of which -/
theorem end_which (n : Nat) (T' : Str → Option Fn) (i1 : (ctxOf T' G n).io "_law_same" = [false, false]) (i2 : (ctxOf T' G n).io "answer_in" = [false, false, false]) (kk : CE) (hk : kk = k1_law) (o1 : CB) (gd wd : D) (m : Mdl) (c1 c2 c3 c4 c5 : D) (fd : List D) (xs ys : List Nat) (hxl : xs.length ≤ 1000)
    (he : xs.filter (fun x => decide (x < m.many)) = ys) (s0 s1 s2 s4 s8 j9 j10 s11 : Sl) (h9 : j9.nlk = true) (h10 : j10.nlk = true) (Q : Out → Prop) (hi : inListD (.tup [.str [119, 104, 105, 99, 104]]) fd = some true)
    (r1 : Fi.run T' G n "answer_in" [(false, gd), (false, wd), (false, .tup [c1, c2, c3, c4, c5, .tup fd])] = some (.sh (.tup [.str [119, 104, 105, 99, 104], .tup (xs.map fun x : Nat => D.int x)]), [.sh gd, .sh wd, .sh (.tup [c1, c2, c3, c4, c5, .tup fd])]))
    (r2 : Fi.run T' G n "answer_in" [(false, gd), (false, mD m), (false, .tup [c1, c2, c3, c4, c5, .tup fd])] = some (.sh (.tup [.str [119, 104, 105, 99, 104], .tup (ys.map fun x : Nat => D.int x)]), [.sh gd, .sh (mD m), .sh (.tup [c1, c2, c3, c4, c5, .tup fd])]))
    (r3 : Fi.run T' G n "_law_same" [(false, .tup (ys.map fun x : Nat => D.int x)), (false, .tup (ys.map fun x : Nat => D.int x))] = some (.sh (.bl true), [.sh (.tup (ys.map fun x : Nat => D.int x)), .sh (.tup (ys.map fun x : Nat => D.int x))]))
    (q : Q (.nx ⟨[s0, s1, s2, .sh gd, s4, .sh (mD m), .sh (.tup [c1, c2, c3, c4, c5, .tup fd]), .sh wd, s8, .sh (.tup [.str [119, 104, 105, 99, 104], .tup (xs.map fun x : Nat => D.int x)]), .sh (.tup [.str [119, 104, 105, 99, 104], .tup (ys.map fun x : Nat => D.int x)]), s11], []⟩)) :
    WB (ctxOf T' G n) (.cons (.ite (.op2 .inn (.tup (.cons (.con (.str [119, 104, 105, 99, 104])) .nil)) (.idx (.var 6) (.con (.int 5)))) (.cons (.par [9, 10] (.cons (.call "answer_in" (.cons (.var 3) (.cons (.var 7) (.cons (.var 6) .nil)))) (.cons (.call "answer_in" (.cons (.var 3) (.cons (.var 5) (.cons (.var 6) .nil)))) .nil))) (.cons (.ite (.or (.op2 .ne (.idx (.var 9) (.con (.int 0))) (.con (.str [119, 104, 105, 99, 104]))) (.not (.call "_law_same" (.cons (.blt .tuple (.cons kk .nil)) (.cons (.idx (.var 10) (.con (.int 1))) .nil))))) (.cons (.ret (.con (.bl false))) .nil) .nil) .nil)) o1) .nil)
      ⟨[s0, s1, s2, .sh gd, s4, .sh (mD m), .sh (.tup [c1, c2, c3, c4, c5, .tup fd]), .sh wd, s8, j9, j10, s11], []⟩ Q := by
  have hc := cmp_less (ctxOf T' G n) s0 s1 s2 (.sh gd) s4 (.sh (.tup [c1, c2, c3, c4, c5, .tup fd])) (.sh wd) s8 (.sh (.tup [.str [119, 104, 105, 99, 104], .tup (ys.map fun x : Nat => D.int x)])) s11 (.str [119, 104, 105, 99, 104]) m xs hxl
  rw [he, ← hk] at hc
  clear hk he
  generalize (xs.map fun x : Nat => D.int x) = X at *
  generalize (ys.map fun x : Nat => D.int x) = Y at *
  generalize mD m = md at *
  walk_at "fi"
theorem end_plain (n : Nat) (T' : Str → Option Fn) (i1 : (ctxOf T' G n).io "_law_same" = [false, false]) (i2 : (ctxOf T' G n).io "true_in" = [false, false, false]) (a1 : CB) (gd wd md : D) (c1 c2 c3 c4 c5 : D) (fd : List D) (b : Bool)
    (s0 s1 s2 s4 s8 j9 j10 s11 : Sl) (Q : Out → Prop) (hi : inListD (.tup [.str [119, 104, 105, 99, 104]]) fd = some false)
    (r1 : Fi.run T' G n "true_in" [(false, gd), (false, wd), (false, .tup [c1, c2, c3, c4, c5, .tup fd])] = some (.sh (.bl b), [.sh gd, .sh wd, .sh (.tup [c1, c2, c3, c4, c5, .tup fd])]))
    (r2 : Fi.run T' G n "true_in" [(false, gd), (false, md), (false, .tup [c1, c2, c3, c4, c5, .tup fd])] = some (.sh (.bl b), [.sh gd, .sh md, .sh (.tup [c1, c2, c3, c4, c5, .tup fd])]))
    (r3 : Fi.run T' G n "_law_same" [(false, .bl b), (false, .bl b)] = some (.sh (.bl true), [.sh (.bl b), .sh (.bl b)]))
    (q : Q (.nx ⟨[s0, s1, s2, .sh gd, s4, .sh md, .sh (.tup [c1, c2, c3, c4, c5, .tup fd]), .sh wd, s8, j9, j10, s11], []⟩)) :
    WB (ctxOf T' G n) (.cons (.ite (.op2 .inn (.tup (.cons (.con (.str [119, 104, 105, 99, 104])) .nil)) (.idx (.var 6) (.con (.int 5)))) a1 o1_law) .nil)
      ⟨[s0, s1, s2, .sh gd, s4, .sh md, .sh (.tup [c1, c2, c3, c4, c5, .tup fd]), .sh wd, s8, j9, j10, s11], []⟩ Q := by
  unfold o1_law
  walk_at "fi"
end K56
end

section
set_option maxRecDepth 100000
set_option maxHeartbeats 4000000
namespace K56
open PySem L2 Fi
local macro_rules | `(tactic| walk_at "fi") => `(tactic| simp [WB_cons, WB_nil, WS_asg, WS_par, WS_aug, WS_augIx, WS_setIx, WS_ex, WS_ret, WS_retN, WS_brk, WS_cnt, WS_pas, WS_ite, iteQ_some, iteT_t, iteT_f, cont_nx, cont_rt, cont_bk, cont_ct, Lp_nx, Lp_ct, Lp_rt, Lp_bk, Lw_nx, Lw_ct, Lw_rt, Lw_bk, WT, Done_rt, Done_nx, giveD_sh, giveD_ow, giveD_pk, finsD, rg0, rg1, rg2, rg3, rg4, rg5, rg6, evS, evE, evEs, evO, evT, evI, evFs, Env.tkf, putp, Env.get, Env.put, Env.vw, Env.rd, Env.tk, Env.tks, Env.free, Rs.fz, op2D, addD, subD, mulD, fdivD, modD, powD, cmpA, ordD, nlk_un, nlk_sh, nlk_ow, nlk_lk, isD, iopD, iaddD, inopD, iaddI, op1D, PR.rs, D.truth, D.len, ixD, ix, partD, cutD, revD, lenB, absB, intB, tupleB, listB, anyB, allB, isinstB, bltD, getB, mthD, mthTy, appendB, extendB, popB, mutD, mutTy, setD, D.key, DKey.ok, tyNames, D.tyName, tySub, lock, unlock, lkFree, seqD, puts, bindT, Tg.slots, wipeE, back, argsOf, lent, lentOk, Ar.pass, behind, dk_ss, dk_ii, dk_si, dk_is, bigLine, ownOk, mapOut, turnF, dictAt, lockVar, hide, unhide, bls, inD, D.isNon, List.lookup, ctx_call, io_row_of, io_kind_of, io_roles_of, io_gloss_of, io_senses_of_kind, io_is_such, io_such_ones, io_individual_of, io_is_reached, io_goes_on, io_true_of, io_true_in, io_answer_in, io_is_number, io_is_ascending, io_is_individual, io_is_pair, io_are_pairs, io_is_fact, io_are_facts, io_are_all_names, io_is_model, io_law_draws, io_law_next, io_law_pick, io_law_same, io_law_ground, io_law_of_kind, io_law_text_of, io_law_more_text, io_law_thing, io_law_more, io_law_filler, io_law_meaning, io_law_model, io_law_wider, io_law, *])
local macro_rules | `(tactic| walk_at "fs") => `(tactic| simp [WB_cons, WB_nil, WS_asg, WS_par, WS_aug, WS_augIx, WS_setIx, WS_ex, WS_ret, WS_retN, WS_brk, WS_cnt, WS_pas, WS_ite, iteQ_some, iteT_t, iteT_f, cont_nx, cont_rt, cont_bk, cont_ct, Lp_nx, Lp_ct, Lp_rt, Lp_bk, Lw_nx, Lw_ct, Lw_rt, Lw_bk, WT, Done_rt, Done_nx, giveD_sh, giveD_ow, giveD_pk, finsD, rg0, rg1, rg2, rg3, rg4, rg5, rg6, evS, evE, evEs, evO, evT, evI, evFs, Env.tkf, putp, Env.get, Env.put, Env.vw, Env.rd, Env.tk, Env.tks, Env.free, Rs.fz, op2D, addD, subD, mulD, fdivD, modD, powD, cmpA, ordD, nlk_un, nlk_sh, nlk_ow, nlk_lk, isD, iopD, iaddD, inopD, iaddI, op1D, PR.rs, D.truth, D.len, ixD, ix, partD, cutD, revD, lenB, absB, intB, tupleB, listB, anyB, allB, isinstB, bltD, getB, mthD, mthTy, appendB, extendB, popB, mutD, mutTy, tyNames, D.tyName, tySub, lock, unlock, lkFree, seqD, puts, bindT, Tg.slots, wipeE, back, argsOf, lent, lentOk, Ar.pass, behind, dk_ss, dk_ii, dk_si, dk_is, bigLine, ownOk, mapOut, turnF, dictAt, lockVar, hide, unhide, bls, inD, D.isNon, List.lookup, ctx_call, io_row_of, io_kind_of, io_roles_of, io_gloss_of, io_senses_of_kind, io_is_such, io_such_ones, io_individual_of, io_is_reached, io_goes_on, io_true_of, io_true_in, io_answer_in, io_is_number, io_is_ascending, io_is_individual, io_is_pair, io_are_pairs, io_is_fact, io_are_facts, io_are_all_names, io_is_model, io_law_draws, io_law_next, io_law_pick, io_law_same, io_law_ground, io_law_of_kind, io_law_text_of, io_law_more_text, io_law_thing, io_law_more, io_law_filler, io_law_meaning, io_law_model, io_law_wider, io_law, *])
theorem law_turn (N : Nat) (hN : 60 ≤ N) {g : List Rw} (hg : GrOk g) (ds : List Int) (i : Nat) (l : Int) (t : Int) (s0 j2 j4 j5 j6 j7 j8 j9 j10 j11 : Sl) (h4 : j4.nlk = true) (h5 : j5.nlk = true) (h6 : j6.nlk = true) (h7 : j7.nlk = true) (h8 : j8.nlk = true) (h9 : j9.nlk = true) (h10 : j10.nlk = true) (h11 : j11.nlk = true) (Q : Out → Prop)
    (fin : ∀ (i : Nat) (l : Int) (j4 j5 j6 j7 j8 j9 j10 j11 : Sl), j4.nlk = true → j5.nlk = true → j6.nlk = true → j7.nlk = true → j8.nlk = true → j9.nlk = true → j10.nlk = true → j11.nlk = true → Q (.nx ⟨[s0, .ow (WL ds i l), j2, .sh (gD g), j4, j5, j6, j7, j8, j9, j10, j11], []⟩)) :
    WT (ctxOf T G N) (.nm 4) b2_law (.int t) ⟨[s0, .ow (WL ds i l), j2, .sh (gD g), j4, j5, j6, j7, j8, j9, j10, j11], []⟩ Q := by
  obtain ⟨m, ia, la, hm, r1⟩ := draws_model (N - 3) hg ds i l
  rw [show N - 3 + 3 = N by omega] at r1
  obtain ⟨r, hr, er⟩ := nxt_nat ds ia (m := 2) (by omega)
  have hr2 : r ≤ 2 := by omega
  have er : nxt ds ia 2 = (r : Int) := er
  obtain ⟨c, ib, lb, hc, r2⟩ := draws_meaning hg r (4 * r + 7) (draws_all hg r hr2).2 (N - (4 * r + 9)) ds (ia + 1) la
  rw [show 4 * r + 7 + 2 + (N - (4 * r + 9)) = N by omega] at r2
  obtain ⟨m', ic, hw, r3⟩ := draws_wider (N - 3) hg ds ib lb m hm
  rw [show N - 3 + 3 = N by omega] at r3
  have hNx := next_WL (N - 1) ds ia la 2 (by omega)
  rw [show N - 1 + 1 = N by omega] at hNx
  have gl : g.length ≤ 1000 := by have := hg.len; omega
  have k1 := run_is_model (N - 5) g gl (do_ne hg) m (hm.ok hg)
  have k2 := run_is_model (N - 5) g gl (do_ne hg) m' (hw.ok hg hm)
  rw [show N - 5 + 5 = N by omega] at k1 k2
  have k3 : Fi.run T G N "_law_same" [(false, .tup [.bl true, .bl true]), (false, .tup [.bl true, .bl true])] = some (.sh (.bl true), [.sh (.tup [.bl true, .bl true]), .sh (.tup [.bl true, .bl true])]) := by
    have := run_same (T := T) (G := G) rfl (N - 1) (.tup [.bl true, .bl true]) rfl (by simp [sz, szs])
    rw [show N - 1 + 1 = N by omega] at this
    exact this
  have i1 := io_law_model
  have i2 := io_law_meaning
  have i3 := io_law_wider
  have i4 := io_is_model
  have i5 := io_law_same
  have i6 := io_law_next
  refine wt_nm (E1 := ⟨[s0, .ow (WL ds i l), j2, .sh (gD g), .sh (.int t), j5, j6, j7, j8, j9, j10, j11], []⟩) ?_ rfl ?_
  · clear fin r1 r2 r3 hNx k1 k2 k3 i1 i2 i3 i4 i5 i6
    generalize gD g = gd at *
    walk_at "fi"
  unfold b2_law
  refine wb_step (E1 := ⟨[s0, .ow (WL ds ib lb), j2, .sh (gD g), .sh (.int t), .sh (mD m), .sh (clD c), j7, j8, j9, j10, j11], []⟩) ?_ ?_
  · clear fin r3 k1 k2 k3 i3 i4 i5 hm hc hw hg gl
    generalize gD g = gd at *
    generalize mD m = md at *
    generalize clD c = cd at *
    generalize T = T' at *
    walk_at "fi"
  refine wb_step (E1 := ⟨[s0, .ow (WL ds ic lb), j2, .sh (gD g), .sh (.int t), .sh (mD m), .sh (clD c), .sh (mD m'), j8, j9, j10, j11], []⟩) ?_ ?_
  · clear fin r1 r2 hNx k1 k2 k3 i1 i2 i4 i5 i6 hm hc hw hg gl
    generalize gD g = gd at *
    generalize mD m = md at *
    generalize mD m' = wd at *
    generalize clD c = cd at *
    generalize T = T' at *
    walk_at "fi"
  refine wb_stepS (E1 := ⟨[s0, .ow (WL ds ic lb), j2, .sh (gD g), .sh (.int t), .sh (mD m), .sh (clD c), .sh (mD m'), j8, j9, j10, j11], []⟩) ?_ ?_
  · clear fin r1 r2 r3 hNx i1 i2 i3 i6 hm hc hw hg gl
    generalize gD g = gd at *
    generalize mD m = md at *
    generalize mD m' = wd at *
    generalize clD c = cd at *
    generalize T = T' at *
    walk_at "fi"
  clear r1 r2 r3 hNx k1 k2 k3 i1 i2 i3 i4 i5 i6
  have tm := tm_of hm
  have tw := tm_wide hm hw
  obtain ⟨mo, tt, y, d, fs⟩ := c
  rw [WB_cons]
  refine ws_for filD fs (l := none) (E1 := ⟨[s0, .ow (WL ds ic lb), j2, .sh (gD g), .sh (.int t), .sh (mD m), .sh (clD (mo, tt, y, d, fs)), .sh (mD m'), j8, j9, j10, j11], []⟩)
    (I := fun _ E' => ∃ j8 : Sl, E' = ⟨[s0, .ow (WL ds ic lb), j2, .sh (gD g), .sh (.int t), .sh (mD m), .sh (clD (mo, tt, y, d, fs)), .sh (mD m'), j8, j9, j10, j11], []⟩ ∧ j8.nlk = true) ?_ ⟨j8, rfl, h8⟩ ?_ ?_
  · clear fin hm hc hw hg gl tm tw
    rw [clD_mk]
    generalize gD g = gd at *
    generalize mD m = md at *
    generalize mD m' = wd at *
    generalize T = T' at *
    walk_at "fi"
  · rintro pre f post E' hx ⟨j8, rfl, h8⟩
    have hf : f ∈ fs := by rw [hx]; simp
    cases f with
    | one w =>
      have e : filD (.one w) = .tup (.str w :: []) := by unfold filD; rfl
      rw [e]
      refine own_other _ w [] ?_ _ _ _ _ _ _ _ _ j8 _ _ _ h8 _ ?_
      · rcases drC_fil hc _ hf with h | h
        · have h : w = [115, 112, 101, 97, 107, 101, 114] ∨ w = [104, 101, 97, 114, 101, 114] := by cases r <;> exact h
          rcases h with rfl | rfl <;> decide
        · cases h; decide
      · rw [Lp_nx]; exact ⟨_, rfl, rfl⟩
    | name s =>
      have e : filD (.name s) = .tup (.str tName :: [.str s]) := by unfold filD; rfl
      rw [e]
      refine own_other _ tName [.str s] (by decide) _ _ _ _ _ _ _ _ j8 _ _ _ h8 _ ?_
      rw [Lp_nx]; exact ⟨_, rfl, rfl⟩
    | thing s num fix qs ms =>
      have hd : Dr g r (.thing s num fix qs ms) := (drC_fil hc _ hf).elim id fun h => by cases h
      have q1 := ones_run hg tm hr2 hd rfl N (by omega)
      have q2 := ones_run hg tw hr2 hd rfl N (by omega)
      obtain ⟨w1, w2⟩ := such_wide (gloOf g) hm hw (r + 3) (.thing s num fix qs ms) (dr_deep hg m tm.perm r _ hd)
      rw [hw.many, filter_wide w1 w2] at q2
      have q3 := same_ints (N - 1) ((List.range m.many).filter (such (gloOf g) m (r + 3) (.thing s num fix qs ms))) (by
        have := List.length_filter_le (such (gloOf g) m (r + 3) (.thing s num fix qs ms)) (List.range m.many)
        rw [List.length_range] at this
        have := tm.many
        omega)
      rw [show N - 1 + 1 = N by omega] at q3
      rw [thing_D] at q1 q2 ⊢
      refine own_thing N T (io_law_same _) (io_such_ones _) (gD g) (mD m) (mD m') _ _ _ _ _ _ _ j8 _ _ _ h8 _ q2 q1 q3 ?_
      rw [Lp_nx]; exact ⟨_, rfl, rfl⟩
  · rintro E' ⟨j8, rfl, h8⟩
    rw [show ∀ X, unlock X none = X from fun _ => rfl, cont_nx]
    have hiw := in_which fs
    cases hwh : fs.any isWhich with
    | true =>
      rw [hwh] at hiw
      have a1 := run_answer_in (N - 1) (gD g) m' mo tt y d fs (fun x => tru m' (such (gloOf g) m' (r + 3)) (mo, tt, y, d, fs) x) tw.many hwh fun x _ => tru_run hg tw hr2 hc (.int x) x (.inl rfl) (N - 1) (by omega)
      have a2 := run_answer_in (N - 1) (gD g) m mo tt y d fs (fun x => tru m (such (gloOf g) m (r + 3)) (mo, tt, y, d, fs) x) tm.many hwh fun x _ => tru_run hg tm hr2 hc (.int x) x (.inl rfl) (N - 1) (by omega)
      rw [hw.many] at a1
      rw [show N - 1 + 1 = N by omega] at a1 a2
      have e := less_wide (n := m.many) (p := fun x => tru m (such (gloOf g) m (r + 3)) (mo, tt, y, d, fs) x) (p' := fun x => tru m' (such (gloOf g) m' (r + 3)) (mo, tt, y, d, fs) x) fun x hx => tru_wide hg hm hw hc x hx
      have lx := List.length_filter_le (fun x => tru m' (such (gloOf g) m' (r + 3)) (mo, tt, y, d, fs) x) (List.range (m.many + 1))
      have ly := List.length_filter_le (fun x => tru m (such (gloOf g) m (r + 3)) (mo, tt, y, d, fs) x) (List.range m.many)
      rw [List.length_range] at lx ly
      have hmm := tm.many
      have q3 := same_ints (N - 1) ((List.range m.many).filter fun x => tru m (such (gloOf g) m (r + 3)) (mo, tt, y, d, fs) x) (by omega)
      rw [show N - 1 + 1 = N by omega] at q3
      rw [clD_mk] at a1 a2 ⊢
      exact end_which N T (io_law_same _) (io_answer_in _) k1_law rfl o1_law (gD g) (mD m') m _ _ _ _ _ _ _ _ (by omega) e _ _ _ _ j8 j9 j10 j11 h9 h10 _ hiw a1 a2 q3 (fin _ _ _ _ _ _ _ _ _ _ rfl rfl rfl rfl h8 rfl rfl h11)
    | false =>
      rw [hwh] at hiw
      have a1 := run_true_in (N - 1) (gD g) (mD m') (clD (mo, tt, y, d, fs)) _ (tru_run hg tw hr2 hc .non 0 (.inr hwh) (N - 1) (by omega))
      have a2 := run_true_in (N - 1) (gD g) (mD m) (clD (mo, tt, y, d, fs)) _ (tru_run hg tm hr2 hc .non 0 (.inr hwh) (N - 1) (by omega))
      rw [tru_wide hg hm hw hc 0 hm.m1] at a1
      rw [show N - 1 + 1 = N by omega] at a1 a2
      have q3 := same_bool (N - 1) (tru m (such (gloOf g) m (r + 3)) (mo, tt, y, d, fs) 0)
      rw [show N - 1 + 1 = N by omega] at q3
      rw [clD_mk] at a1 a2 ⊢
      exact end_plain N T (io_law_same _) (io_true_in _) _ (gD g) (mD m') (mD m) _ _ _ _ _ _ _ _ _ _ _ j8 j9 j10 j11 _ hiw a1 a2 q3 (fin _ _ _ _ _ _ _ _ _ _ rfl rfl rfl rfl h8 h9 h10 h11)
theorem law_first (T' : Str → Option Fn) (n : Nat) (ns ds : List Int) (hds : Fi.run T' G n "_law_draws" [(false, .scr ns), (false, .int 3000)] = some (.ow (.lst (ds.map .int)), [.sh (.scr ns), .sh (.int 3000)])) (i1 : ∀ n, (ctxOf T' G n).io "_law_draws" = [false, false]) :
    evS (ctxOf T' G n) (.asg (.nm 1) (.dsp [.s [100, 114, 97, 119, 115], .s [97, 116], .s [108, 101, 102, 116]] (.cons (.call "_law_draws" (.cons (.var 0) (.cons (.con (.int 3000)) .nil))) (.cons (.con (.int 0)) (.cons (.con (.int 8)) .nil))))) ⟨[.sh (.scr ns), .un, .un, .un, .un, .un, .un, .un, .un, .un, .un, .un], []⟩
      = some (.nx ⟨[.sh (.scr ns), .ow (WL ds 0 8), .un, .un, .un, .un, .un, .un, .un, .un, .un, .un], []⟩) := by
  have hk : ∀ x y z : D, kput (.s [108, 101, 102, 116]) z (kput (.s [97, 116]) y (kput (.s [100, 114, 97, 119, 115]) x [])) = [(kDraws, x), (kAt, y), (kLeft, z)] := fun _ _ _ => rfl
  unfold WL
  walk_at "fi"
theorem ground_step (C : Fi.Ctx) (T' : Str → Option Fn) (n : Nat) (i1 : ∀ n, (ctxOf T' G n).io "_law_ground" = [true]) (w w2 gd : D) (r1 : Fi.run T' G n "_law_ground" [(true, w)] = some (.sh gd, [.ow w2])) (s0 j2 j3 j4 j5 j6 j7 j8 j9 j10 j11 : Sl) (h3 : j3.nlk = true) :
    evS (ctxOf T' G n) (.asg (.nm 3) (.call "_law_ground" (.cons (.var 1) .nil))) ⟨[s0, .ow w, j2, j3, j4, j5, j6, j7, j8, j9, j10, j11], []⟩ = some (.nx ⟨[s0, .ow w2, j2, .sh gd, j4, j5, j6, j7, j8, j9, j10, j11], []⟩) := by
  walk_at "fi"
theorem law_runs (ns : List Int) (hns : ns.length ≤ 63) : ∃ ss, Fi.run T G 61 "law" [(false, .scr ns)] = some (.sh (.bl true), ss) := by
  obtain ⟨ds, hds⟩ := run_draws (T := T) (G := G) rfl 59 ns 3000 hns (by omega)
  have key : ∃ rr ss, Fi.run T G (60 + 1) "law" [(false, .scr ns)] = some (rr, ss) ∧ rr = .sh (.bl true) := by
    refine run_wb (fn := f_law) (E0 := ⟨[.sh (.scr ns), .un, .un, .un, .un, .un, .un, .un, .un, .un, .un, .un], []⟩) (P := fun rr _ => rr = .sh (.bl true)) rfl rfl rfl ?_
    show WB _ c_law _ (Done 1 _)
    unfold c_law
    refine wb_step (law_first T 60 ns ds hds io_law_draws) ?_
    rw [WB_cons]
    refine ws_for (fun k : Nat => D.int k) (List.range 5) (l := none) (E1 := ⟨[.sh (.scr ns), .ow (WL ds 0 8), .un, .un, .un, .un, .un, .un, .un, .un, .un, .un], []⟩)
      (I := fun _ E' => ∃ (i : Nat) (l : Int) (j2 j3 j4 j5 j6 j7 j8 j9 j10 j11 : Sl), E' = ⟨[.sh (.scr ns), .ow (WL ds i l), j2, j3, j4, j5, j6, j7, j8, j9, j10, j11], []⟩ ∧ j2.nlk = true ∧ j3.nlk = true ∧ j4.nlk = true ∧ j5.nlk = true ∧ j6.nlk = true ∧ j7.nlk = true ∧ j8.nlk = true ∧ j9.nlk = true ∧ j10.nlk = true ∧ j11.nlk = true)
      ?_ ⟨0, 8, .un, .un, .un, .un, .un, .un, .un, .un, .un, .un, rfl, rfl, rfl, rfl, rfl, rfl, rfl, rfl, rfl, rfl, rfl⟩ ?_ ?_
    · refine evI_rng (n := 5) ?_ (by omega)
      rw [evE]; rfl
    · rintro pre k post E' hx ⟨i, l, j2, j3, j4, j5, j6, j7, j8, j9, j10, j11, rfl, h2, h3, h4, h5, h6, h7, h8, h9, h10, h11⟩
      obtain ⟨tr, b, cc, v, u, p, q, ia, rg⟩ := run_ground 58 ds i (okRest_left l)
      have hg := grd_ok tr b cc v u p q
      refine wt_nm (E1 := ⟨[.sh (.scr ns), .ow (WL ds i l), .sh (.int k), j3, j4, j5, j6, j7, j8, j9, j10, j11], []⟩) (by unfold Fi.Env.free Fi.Env.get; simp [h2]) rfl ?_
      unfold b3_law
      refine wb_step (ground_step (ctxOf T G 60) T 60 io_law_ground (WL ds i l) (WL ds ia l) (gD (grd tr b cc v u p q)) rg _ _ j3 _ _ _ _ _ _ _ _ h3) ?_
      rw [WB_cons]
      refine ws_for (fun k : Nat => D.int k) (List.range 4) (l := none) (E1 := ⟨[.sh (.scr ns), .ow (WL ds ia l), .sh (.int k), .sh (gD (grd tr b cc v u p q)), j4, j5, j6, j7, j8, j9, j10, j11], []⟩)
        (I := fun _ E' => ∃ (i : Nat) (l : Int) (j4 j5 j6 j7 j8 j9 j10 j11 : Sl), E' = ⟨[.sh (.scr ns), .ow (WL ds i l), .sh (.int k), .sh (gD (grd tr b cc v u p q)), j4, j5, j6, j7, j8, j9, j10, j11], []⟩ ∧ j4.nlk = true ∧ j5.nlk = true ∧ j6.nlk = true ∧ j7.nlk = true ∧ j8.nlk = true ∧ j9.nlk = true ∧ j10.nlk = true ∧ j11.nlk = true)
        ?_ ⟨ia, l, j4, j5, j6, j7, j8, j9, j10, j11, rfl, h4, h5, h6, h7, h8, h9, h10, h11⟩ ?_ ?_
      · refine evI_rng (n := 4) ?_ (by omega)
        rw [evE]; rfl
      · rintro pre t post E' hx ⟨i, l, j4, j5, j6, j7, j8, j9, j10, j11, rfl, h4, h5, h6, h7, h8, h9, h10, h11⟩
        refine law_turn 60 (by omega) hg ds i l t _ _ j4 j5 j6 j7 j8 j9 j10 j11 h4 h5 h6 h7 h8 h9 h10 h11 _ fun i l j4 j5 j6 j7 j8 j9 j10 j11 h4 h5 h6 h7 h8 h9 h10 h11 => ?_
        rw [Lp_nx]
        exact ⟨i, l, j4, j5, j6, j7, j8, j9, j10, j11, rfl, h4, h5, h6, h7, h8, h9, h10, h11⟩
      · rintro E' ⟨i, l, j4, j5, j6, j7, j8, j9, j10, j11, rfl, h4, h5, h6, h7, h8, h9, h10, h11⟩
        rw [show ∀ X, unlock X none = X from fun _ => rfl, cont_nx, WB_nil, Lp_nx]
        exact ⟨i, l, _, _, j4, j5, j6, j7, j8, j9, j10, j11, rfl, rfl, rfl, h4, h5, h6, h7, h8, h9, h10, h11⟩
    · rintro E' ⟨i, l, j2, j3, j4, j5, j6, j7, j8, j9, j10, j11, rfl, h2, h3, h4, h5, h6, h7, h8, h9, h10, h11⟩
      rw [show ∀ X, unlock X none = X from fun _ => rfl, cont_nx]
      refine ⟨.rt (.sh (.bl true)) ⟨[.sh (.scr ns), .ow (WL ds i l), j2, j3, j4, j5, j6, j7, j8, j9, j10, j11], []⟩, ?_, ?_⟩
      · rw [evB, evS, evE]
      · rw [Done_rt]
        exact ⟨.sh (.bl true), _, rfl, rfl, rfl⟩
  obtain ⟨rr, ss, h, rfl⟩ := key
  exact ⟨ss, h⟩
end K56
end

open PySem PySem.W PyProof.Rows
set_option maxHeartbeats 0 in
theorem PySem.Challenge.cw_meaningsled_k56_whole_individuals_of_no_holds : PySem.Challenge.rw_meaningsled_k56_whole_individuals_of_no.Holds := by
  w_on; o_law; k_head; (case hw => w_witness2)
  k_fill
  refine L2.walk_of (l := PySem.Challenge.rw_meaningsled_k56_whole_individuals_of_no) (n := 63) (k := 61) (x := "script") (CX := fun _ => L2.CX0) (sp := fun w => Fi.spL _) rfl (by decide) rfl ⟨rfl, by decide, by decide⟩ (fun w h Y => PySem.W.kIn_of Y) ?F (fun _ _ a ns hl _ hS => ⟨a, ns, rfl, hS, hl, fun _ => rfl⟩) (fun _ _ _ _ _ h => h)
  case F =>
    intro w mg fa h KX G hmg
    have hlaw : mg ("law" : PySem.Str) = some (.ref fa) := hmg
    clear hmg
    refine' Fi.law_end (K56.defs_are KX G ?s0 ?s1 ?s2 ?s3 ?s4 ?s5 ?s6 ?s7 ?s8 ?s9 ?s10 ?s11 ?s12 ?s13 ?s14 ?s15 ?s16 ?s17 ?s18 ?s19 ?s20 ?s21 ?s22 ?s23 ?s24 ?s25 ?s26 ?s27 ?s28 ?s29 ?s30 ?s31 ?s32 ?s33 ?s34 ?s35 ?s36) (K56.blts_are KX G ?z0 ?z1 ?z2 ?z3 ?z4 ?z5 ?z6 ?z7 ?z8 ?z9 ?z10 ?z11 ?z12 ?z13 ?z14 ?z15 ?z16 ?z17 ?z18) (K56.glo_are KX G ?gc0 ?gc1) hlaw rfl rfl rfl K56.law_runs
    (case gc0 => refine' Fi.glo_tup_mk [[112, 97, 115, 116], [110, 111, 119], [108, 97, 116, 101, 114]] rfl ?a ?b ?c ?d; (case a => k_is); (case b => k_is); (case c => first | decide | size_fits); (case d => rfl))
    (case gc1 => refine' Fi.glo_int_mk ?a; (case a => k_is))
    (case s0 => refine' Fi.stand_mk ?a ?b ?c ?d; (case a => k_is); (case b => k_is); (case c => k_is); (case d => k_is))
    (case s1 => refine' Fi.stand_mk ?a ?b ?c ?d; (case a => k_is); (case b => k_is); (case c => k_is); (case d => k_is))
    (case s2 => refine' Fi.stand_mk ?a ?b ?c ?d; (case a => k_is); (case b => k_is); (case c => k_is); (case d => k_is))
    (case s3 => refine' Fi.stand_mk ?a ?b ?c ?d; (case a => k_is); (case b => k_is); (case c => k_is); (case d => k_is))
    (case s4 => refine' Fi.stand_mk ?a ?b ?c ?d; (case a => k_is); (case b => k_is); (case c => k_is); (case d => k_is))
    (case s5 => refine' Fi.stand_mk ?a ?b ?c ?d; (case a => k_is); (case b => k_is); (case c => k_is); (case d => k_is))
    (case s6 => refine' Fi.stand_mk ?a ?b ?c ?d; (case a => k_is); (case b => k_is); (case c => k_is); (case d => k_is))
    (case s7 => refine' Fi.stand_mk ?a ?b ?c ?d; (case a => k_is); (case b => k_is); (case c => k_is); (case d => k_is))
    (case s8 => refine' Fi.stand_mk ?a ?b ?c ?d; (case a => k_is); (case b => k_is); (case c => k_is); (case d => k_is))
    (case s9 => refine' Fi.stand_mk ?a ?b ?c ?d; (case a => k_is); (case b => k_is); (case c => k_is); (case d => k_is))
    (case s10 => refine' Fi.stand_mk ?a ?b ?c ?d; (case a => k_is); (case b => k_is); (case c => k_is); (case d => k_is))
    (case s11 => refine' Fi.stand_mk ?a ?b ?c ?d; (case a => k_is); (case b => k_is); (case c => k_is); (case d => k_is))
    (case s12 => refine' Fi.stand_mk ?a ?b ?c ?d; (case a => k_is); (case b => k_is); (case c => k_is); (case d => k_is))
    (case s13 => refine' Fi.stand_mk ?a ?b ?c ?d; (case a => k_is); (case b => k_is); (case c => k_is); (case d => k_is))
    (case s14 => refine' Fi.stand_mk ?a ?b ?c ?d; (case a => k_is); (case b => k_is); (case c => k_is); (case d => k_is))
    (case s15 => refine' Fi.stand_mk ?a ?b ?c ?d; (case a => k_is); (case b => k_is); (case c => k_is); (case d => k_is))
    (case s16 => refine' Fi.stand_mk ?a ?b ?c ?d; (case a => k_is); (case b => k_is); (case c => k_is); (case d => k_is))
    (case s17 => refine' Fi.stand_mk ?a ?b ?c ?d; (case a => k_is); (case b => k_is); (case c => k_is); (case d => k_is))
    (case s18 => refine' Fi.stand_mk ?a ?b ?c ?d; (case a => k_is); (case b => k_is); (case c => k_is); (case d => k_is))
    (case s19 => refine' Fi.stand_mk ?a ?b ?c ?d; (case a => k_is); (case b => k_is); (case c => k_is); (case d => k_is))
    (case s20 => refine' Fi.stand_mk ?a ?b ?c ?d; (case a => k_is); (case b => k_is); (case c => k_is); (case d => k_is))
    (case s21 => refine' Fi.stand_mk ?a ?b ?c ?d; (case a => k_is); (case b => k_is); (case c => k_is); (case d => k_is))
    (case s22 => refine' Fi.stand_mk ?a ?b ?c ?d; (case a => k_is); (case b => k_is); (case c => k_is); (case d => k_is))
    (case s23 => refine' Fi.stand_mk ?a ?b ?c ?d; (case a => k_is); (case b => k_is); (case c => k_is); (case d => k_is))
    (case s24 => refine' Fi.stand_mk ?a ?b ?c ?d; (case a => k_is); (case b => k_is); (case c => k_is); (case d => k_is))
    (case s25 => refine' Fi.stand_mk ?a ?b ?c ?d; (case a => k_is); (case b => k_is); (case c => k_is); (case d => k_is))
    (case s26 => refine' Fi.stand_mk ?a ?b ?c ?d; (case a => k_is); (case b => k_is); (case c => k_is); (case d => k_is))
    (case s27 => refine' Fi.stand_mk ?a ?b ?c ?d; (case a => k_is); (case b => k_is); (case c => k_is); (case d => k_is))
    (case s28 => refine' Fi.stand_mk ?a ?b ?c ?d; (case a => k_is); (case b => k_is); (case c => k_is); (case d => k_is))
    (case s29 => refine' Fi.stand_mk ?a ?b ?c ?d; (case a => k_is); (case b => k_is); (case c => k_is); (case d => k_is))
    (case s30 => refine' Fi.stand_mk ?a ?b ?c ?d; (case a => k_is); (case b => k_is); (case c => k_is); (case d => k_is))
    (case s31 => refine' Fi.stand_mk ?a ?b ?c ?d; (case a => k_is); (case b => k_is); (case c => k_is); (case d => k_is))
    (case s32 => refine' Fi.stand_mk ?a ?b ?c ?d; (case a => k_is); (case b => k_is); (case c => k_is); (case d => k_is))
    (case s33 => refine' Fi.stand_mk ?a ?b ?c ?d; (case a => k_is); (case b => k_is); (case c => k_is); (case d => k_is))
    (case s34 => refine' Fi.stand_mk ?a ?b ?c ?d; (case a => k_is); (case b => k_is); (case c => k_is); (case d => k_is))
    (case s35 => refine' Fi.stand_mk ?a ?b ?c ?d; (case a => k_is); (case b => k_is); (case c => k_is); (case d => k_is))
    (case s36 => refine' Fi.stand_mk ?a ?b ?c ?d; (case a => k_is); (case b => k_is); (case c => k_is); (case d => k_is))
    (case z0 => k_is)
    (case z1 => k_is)
    (case z2 => k_is)
    (case z3 => k_is)
    (case z4 => k_is)
    (case z5 => k_is)
    (case z6 => k_is)
    (case z7 => k_is)
    (case z8 => k_is)
    (case z9 => k_is)
    (case z10 => k_is)
    (case z11 => k_is)
    (case z12 => k_is)
    (case z13 => k_is)
    (case z14 => k_is)
    (case z15 => k_is)
    (case z16 => k_is)
    (case z17 => k_is)
    (case z18 => k_is)
