import PyProof.Rows.All
import Wide.All
import OpenK.AllK
import Wide.FinOn
import HandS.ForMost
import HandS.Wide
import HandS.Deep
import HandS.Flow
import HandS.TryOnly
import HandS.ExcInit
import HandS.HeadHook1
import HandS.HeadHook2
import HandS.HeadWalk
import HandS.Head2
import HandS.Replace
import HandS.IsInst
import HandS.Text
import HandS.TupSets
import HandS.SortInts
import HandS.WordsDict
import HandS.DictComp
import HandS.Small
import HandS.SetFor
import HandS.MakeKwOnly
import KE.GoesEnum
import PyProof.StrLawsIn
import PySem.Challenge.RW_onehand_k19_whole_a_walk_is_a_bookless_o
section
set_option Elab.async false
set_option linter.all false
set_option maxRecDepth 100000
/-! MiA: a small interpreter over plain data: values by content, lists, dicts and instances by a place in a memory list. -/
namespace Mi
open PySem

abbrev Tx := List Char
def SL : Nat := 16777216

/-- a value -/
inductive W where
  | non | bl (b : Bool) | int (i : Int) | str (x : Tx) | tup (ws : List W) | obj (k : Nat) | frz (ns : List Int) | exc (c : Nat) (v : W)
  deriving Inhabited

/-- what stands at a place of the memory -/
inductive Ob where
  | lst (ws : List W) | dct (kvs : List (W × W)) | dcl (kvs : List (W × W)) | ins (c : Nat) (fs : List (Nat × W))
  deriving Inhabited
abbrev Mem := List Ob
abbrev Env := List (Option W)

/-- how an expression ends -/
inductive R (A : Type) where
  | ok (a : A) (m : Mem) | rse (c : Nat) (v : W) (m : Mem) | bad
def R.bind {A B : Type} (r : R A) (f : A → Mem → R B) : R B := match r with
  | .ok a m => f a m
  | .rse c v m => .rse c v m
  | .bad => .bad
/-- how a statement ends -/
inductive RS where
  | next (e : Env) (m : Mem) | ret (w : W) (m : Mem) | rse (c : Nat) (v : W) (e : Env) (m : Mem) | bad

def alloc (o : Ob) (m : Mem) : R W := .ok (.obj m.length) (m ++ [o])
def ofO {A : Type} (m : Mem) : Option A → R A
  | some a => .ok a m
  | none => .bad

/-! ### the syntax -/
inductive Bop where
  | add | sub | mul | fdiv | mod | pow
  deriving DecidableEq
inductive Cop where
  | eq | ne | lt | le | gt | ge | inn | nin | is | isn
  deriving DecidableEq
/-- built-in functions -/
inductive Blt where
  | len | int1 | all | any | min2 | max2 | list | tuple | sorted | dict1
  deriving DecidableEq
/-- methods of built-in types -/
inductive Bm where
  | append | extend | popL | popAt | join | index | reverse | clear | remove
  deriving DecidableEq
/-- classes that isinstance asks for -/
inductive Kd where
  | str | int | bool | tuple | list | dict | cls (c : Nat)
  deriving DecidableEq

def optList {A B : Type} (l : List A) (f : A → Option B) : Option (List B) := match l with
  | [] => some []
  | a :: r => match f a, optList r f with
    | some b, some s => some (b :: s)
    | _, _ => none
/-- where a parameter's value comes from: the call's i-th value; the j-th of the defaults that lack -/
inductive Pk where
  | a (i : Nat) | d (j : Nat) (w : W)
def permW (pm : List Pk) (ws : List W) : Option (List W) := (optList pm fun p => match p with
    | .a i => ws[i]?
    | .d _ w => some w)
mutual
inductive CE where
  | var (i : Nat) | non | bl (b : Bool) | int (i : Int) | str (x : Tx) | glo (g : Nat)
  | bin (o : Bop) (a b : CE) | neg (a : CE) | not (a : CE)
  | cmp (o : Cop) (a b : CE) | chain (o p : Cop) (a b c : CE)
  | and (a b : CE) | or (a b : CE) | ite (c a b : CE)
  | tup (l : CL) | lst (l : CL) | dct (l : CL)
  | idx (a b : CE) | slc (a lo hi : CE)
  | fld (a : CE) (f : Nat)
  | call (f : Nat) (l : CL) | meth (m : Nat) (r : CE) (l : CL) | make (c : Nat) (l : CL)
  | callK (f : Nat) (l kl : CL) (pm : List Pk) | methK (m : Nat) (r : CE) (l kl : CL) (pm : List Pk) | makeK (c : Nat) (l kl : CL) (pm : List Pk)
  | blt (b : Blt) (l : CL) | bm (m : Bm) (r : CE) (l : CL)
  | isi (a : CE) (ks : List Kd) | isi2 (a : CE) (k1 k2 : Kd)
  | lset (a : CE) | sset (a : CE) | lk (d a : CE)
  | dc (own : List Nat) (kx vx : CE) (t : CT) (it : CI) (ifs : CL)
  | lc (own : List Nat) (elt : CE) (t : CT) (it : CI) (ifs : CL)
  | lc2 (own own2 : List Nat) (elt : CE) (t : CT) (it : CI) (t2 : CT) (it2 : CI) (ifs2 : CL)
inductive CL where
  | nil | cons (a : CE) (l : CL)
/-- what is walked -/
inductive CI where
  | ex (e : CE) | rng (l : CL) | enm (e : CE) | zip (l : CL) | dk (e : CE)
/-- a target -/
inductive CT where
  | nm (i : Nat) | tp (l : CTL)
inductive CTL where
  | nil | cons (t : CT) (l : CTL)
end
mutual
inductive CS where
  | pass | expr (e : CE) | ret (e : CE) | retN
  | set (i : Nat) (e : CE) | unp (t : CTL) (e : CE) | par (i j : Nat) (a b : CE)
  | sub (o i e : CE) | fld (o : CE) (f : Nat) (e : CE) | aug (i : Nat) (e : CE)
  | iff (c : CE) (a b : CB) | whl (c : CE) (b : CB) | for (t : CT) (it : CI) (b : CB)
  | rse (c : Nat) (e : CE) | nvr | lk (d : CE) (s : CS)
inductive CB where
  | nil | cons (s : CS) (b : CB)
end
def CE.isN : CE → Bool
  | .non => true
  | _ => false
/-- a def: its parameters, its slots, its body -/
structure Fn where
  np : Nat
  ns : Nat
  body : CB
structure Cl where
  meths : List (Nat × Nat)
  init : Nat
/-- by number -/
structure Tab where
  fns : List (Nat × Fn)
  cls : List (Nat × Cl)
  glo : List (Nat × W)
def Tab.fn (T : Tab) (f : Nat) : Option Fn := T.fns.lookup f
def Tab.cl (T : Tab) (c : Nat) : Option Cl := T.cls.lookup c
def Tab.gl (T : Tab) (g : Nat) : Option W := T.glo.lookup g

/-! ### data -/
def optL {A B : Type} (f : A → Option B) : List A → Option (List B)
  | [] => some []
  | a :: r => match f a, optL f r with
    | some b, some s => some (b :: s)
    | _, _ => none
def sx (x : Tx) : Str := ⟨(x.map Char.toNat).toArray⟩
/-- a value as the data that == looks at (n: so deep at most) -/
def toD (m : Mem) : Nat → W → Option PyData
  | _, .non => some .none
  | _, .bl b => some (.bool b)
  | _, .int i => some (.int i)
  | _, .str x => some (.str (sx x))
  | _, .exc _ _ => none
  | n + 1, .frz ns => some (.list (ns.map .int))
  | n + 1, .tup ws => (optL (toD m n) ws).map .tuple
  | n + 1, .obj k => match m[k]? with
    | some (.lst ws) => (optL (toD m n) ws).map .list
    | _ => none
  | 0, .frz _ => none
  | 0, .tup _ => none
  | 0, .obj _ => none
def DD : Nat := 20
def eqW (m : Mem) (w u : W) : Option Bool := match toD m DD w, toD m DD u with
  | some d, some e => some (PyData.eqv d e)
  | _, _ => none
/-- the items of a list or a tuple -/
def seqW (m : Mem) : W → Option (List W)
  | .tup ws => some ws
  | .frz ns => some (ns.map .int)
  | .obj k => match m[k]? with
    | some (.lst ws) => some ws
    | _ => none
  | _ => none
def isLst (m : Mem) : W → Option (List W)
  | .frz ns => some (ns.map .int)
  | .obj k => match m[k]? with
    | some (.lst ws) => some ws
    | _ => none
  | _ => none
/-- w in us -/
def inL (m : Mem) (w : W) (us : List W) : Option Bool := match toD m DD w, optL (toD m DD) us with
  | some d, some es => some (es.any fun e => PyData.eqv e d)
  | _, _ => none
def truth (m : Mem) : W → Option Bool
  | .non => some false
  | .bl b => some b
  | .int i => some (i != 0)
  | .str x => if x.length ≤ SL then some (!x.isEmpty) else none
  | .tup ws => some (!ws.isEmpty)
  | .frz ns => some (!ns.isEmpty)
  | .obj k => match m[k]? with
    | some (.lst ws) => some (!ws.isEmpty)
    | _ => none
  | .exc _ _ => none
def tru (w : W) (m : Mem) : R Bool := ofO m (truth m w)

/-! ### operators -/
def binop : Bop → W → W → Mem → R W
  | .add, w, u, m => match w, u with
    | .int i, .int j => .ok (.int (i + j)) m
    | .str x, .str y => if x.length + y.length ≤ SL then .ok (.str (x ++ y)) m else .bad
    | .tup xs, .tup ys => if xs ≠ [] ∧ xs.length + ys.length ≤ SL then .ok (.tup (xs ++ ys)) m else .bad
    | w, u => match isLst m w, isLst m u with
      | some xs, some ys => if xs.length + ys.length ≤ SL then alloc (.lst (xs ++ ys)) m else .bad
      | _, _ => .bad
  | .sub, w, u, m => match w, u with
    | .int i, .int j => .ok (.int (i - j)) m
    | _, _ => .bad
  | .mul, w, u, m => match w, u with
    | .int i, .int j => if (-(2 ^ 64) < i ∧ i < 2 ^ 64) ∨ (-(2 ^ 64) < j ∧ j < 2 ^ 64) then .ok (.int (i * j)) m else .bad
    | .obj k, .int j => match m[k]? with
      | some (.lst ws) => if -(2 ^ 63) ≤ j ∧ j < 2 ^ 63 ∧ ws.length * j.toNat ≤ SL then alloc (.lst (List.replicate j.toNat ws).flatten) m else .bad
      | _ => .bad
    | _, _ => .bad
  | .fdiv, w, u, m => match w, u with
    | .int i, .int j => if 0 < j ∧ j < 2 ^ 64 then .ok (.int (i / j)) m else .bad
    | _, _ => .bad
  | .mod, w, u, m => match w, u with
    | .int i, .int j => if 0 < j then .ok (.int (i % j)) m else .bad
    | _, _ => .bad
  | .pow, w, u, m => match w, u with
    | .int i, .int j => if 0 ≤ j ∧ j ≤ 1000 ∧ i.natAbs < 2 ^ 64 then .ok (.int (i ^ j.toNat)) m else .bad
    | _, _ => .bad
def cmpI (m : Mem) (p : Int → Int → Bool) : W → W → R W
  | .int i, .int j => .ok (.bl (p i j)) m
  | _, _ => .bad
/-- a text within a text -/
def subT (x y : Tx) : Bool := !(Builtin.Str.occurrences (sx y) (sx x) 0 (sx y).length 1).isEmpty
/-- where a text stands first in a text -/
def indexT (x y : Tx) : Option Nat := (Builtin.Str.occurrences (sx x) (sx y) 0 (sx x).length 1).head?
/-! ### dicts: keys ints and texts -/
def keyEq : W → W → Bool
  | .int i, .int j => decide (i = j)
  | .str x, .str y => decide (x = y)
  | _, _ => false
def isKey : W → Bool
  | .int _ => true
  | .str _ => true
  | _ => false
def getK (kvs : List (W × W)) (k : W) : Option W := (kvs.find? fun kv => keyEq kv.1 k).map (·.2)
def dctAt (m : Mem) : W → Option (List (W × W))
  | .obj k => match m[k]? with
    | some (.dct kvs) => some kvs
    | some (.dcl kvs) => some kvs
    | _ => none
  | _ => none
/-- in -/
def inW (m : Mem) (w u : W) : Option Bool := match u with
  | .str y => match w with
    | .str x => some (subT x y)
    | _ => none
  | u => match dctAt m u with
    | some kvs => if isKey w = true then some (getK kvs w).isSome else none
    | none => match seqW m u with
      | some us => inL m w us
      | none => none
def isNon : W → Bool
  | .non => true
  | _ => false
def cmpop : Cop → W → W → Mem → R W
  | .eq, w, u, m => ofO m ((eqW m w u).map .bl)
  | .ne, w, u, m => ofO m ((eqW m w u).map fun b => .bl (!b))
  | .lt, w, u, m => cmpI m (fun i j => decide (i < j)) w u
  | .le, w, u, m => cmpI m (fun i j => decide (i ≤ j)) w u
  | .gt, w, u, m => cmpI m (fun i j => decide (j < i)) w u
  | .ge, w, u, m => cmpI m (fun i j => decide (j ≤ i)) w u
  | .inn, w, u, m => ofO m ((inW m w u).map .bl)
  | .nin, w, u, m => ofO m ((inW m w u).map fun b => .bl (!b))
  | .is, w, u, m => match u with
    | .non => .ok (.bl (isNon w)) m
    | _ => .bad
  | .isn, w, u, m => match u with
    | .non => .ok (.bl (!isNon w)) m
    | _ => .bad
def putW (kvs : List (W × W)) (k v : W) : List (W × W) := if kvs.any (fun kv => keyEq kv.1 k) = true then kvs.map (fun kv => if keyEq kv.1 k = true then (kv.1, v) else kv) else kvs ++ [(k, v)]
def mergeW (kvs more : List (W × W)) : List (W × W) := more.foldl (fun acc kv => putW acc kv.1 kv.2) kvs
/-- keys and values by turns -/
def pairsW : List W → Option (List (W × W))
  | [] => some []
  | k :: v :: r => if isKey k = true then (pairsW r).map fun l => (k, v) :: l else none
  | _ => none
/-- a display's end: the new dict stands at k, empty till now -/
def dctEnd (k : Nat) (ws : List W) (m : Mem) : R W := match m[k]? with
  | some (.dct []) => match pairsW ws with
    | some kvs => if kvs.length ≤ 15 then .ok (.obj k) (m.set k (.dct (mergeW [] kvs))) else .bad
    | none => .bad
  | _ => .bad
def negW (m : Mem) : W → R W
  | .int i => .ok (.int (-i)) m
  | _ => .bad
def ixI (n : Nat) (i : Int) : Option Nat := if 0 ≤ i then (if i < n then some i.toNat else none) else if -(n : Int) ≤ i then some (i + n).toNat else none
def getI {A : Type} (xs : List A) (i : Int) : Option A := (ixI xs.length i).bind fun j => xs[j]?
def idxS (w u : W) (m : Mem) : R W := match u with
  | .int i => match w with
    | .str x => if x.length ≤ SL then ofO m ((getI x i).map fun c => .str [c]) else .bad
    | w => match seqW m w with
      | some ws => ofO m (getI ws i)
      | none => .bad
  | _ => .bad
def idxW (w u : W) (m : Mem) : R W := match dctAt m w with
  | some kvs => if isKey u = true then ofO m (getK kvs u) else .bad
  | none => idxS w u m
/-- a slice's end -/
def cutIx (n d : Nat) : Option Int → Nat
  | none => d
  | some i => if i < 0 then (i + (n : Int)).toNat else min i.toNat n
def cut {A : Type} (xs : List A) (lo hi : Option Int) : List A := (xs.drop (cutIx xs.length 0 lo)).take (cutIx xs.length xs.length hi - cutIx xs.length 0 lo)
/-- a slice's part: left out, or an int -/
def part : Bool → W → Option (Option Int)
  | true, .non => some none
  | false, .int i => some (some i)
  | _, _ => none
def prt (b : Bool) (r : R W) : R (Option Int) := r.bind fun w m => ofO m (part b w)
def slcW (w : W) (l h : Option Int) (m : Mem) : R W := match w with
  | .str x => if x.length ≤ SL then .ok (.str (cut x l h)) m else .bad
  | .tup ws => if cutIx ws.length 0 l = 0 ∧ cutIx ws.length ws.length h = ws.length then .bad else .ok (.tup (cut ws l h)) m
  | w => match isLst m w with
    | some ws => alloc (.lst (cut ws l h)) m
    | none => .bad
def asBls : List W → Option (List Bool) := optL fun w => match w with
  | .bl b => some b
  | _ => none
def lenW (m : Mem) : W → Option Nat
  | .str x => if x.length ≤ SL then some x.length else none
  | w => match dctAt m w with
    | some kvs => some kvs.length
    | none => (seqW m w).map List.length
/-- pairs of keys and values -/
def pairs2 : List W → Option (List (W × W)) := optL fun w => match w with
  | .tup [k, v] => if isKey k = true then some (k, v) else none
  | _ => none
/-! sorted -/
def intW : W → Option Int
  | .int i => some i
  | _ => none
def intsW (ws : List W) : Option (List Int) := optL intW ws
def tupI : W → Option (List Int)
  | .tup ws => intsW ws
  | _ => none
def SB : Int := 1099511627776
/-- what a sort goes by -/
def codeW : W → Int
  | .int i => i
  | w => TS.code SB ((tupI w).getD [])
def insS {A : Type} (f : A → Int) (a : A) : List A → List A
  | [] => [a]
  | b :: r => if f a ≤ f b then a :: b :: r else b :: insS f a r
def srtB {A : Type} (f : A → Int) : List A → List A
  | [] => []
  | a :: r => insS f a (srtB f r)
def tupOk (d : Nat) (w : W) : Bool := match tupI w with
  | some ns => decide (ns.length = d) && ns.all fun n => decide (0 ≤ n) && decide (n < SB)
  | none => false
/-- ints; or few tuples of two ints -/
def srtOk (ws : List W) : Bool := (intsW ws).isSome || (decide (ws.length < 64) && ws.all (tupOk 2))
/-- few tuples of two ints: what a set is made of -/
def setOk (ws : List W) : Bool := decide (ws.length < 64) && ws.all (tupOk 2)
def bltW : Blt → List W → Mem → R W
  | .len, ws, m => match ws with
    | [w] => ofO m ((lenW m w).map fun (n : Nat) => W.int n)
    | _ => .bad
  | .int1, ws, m => match ws with
    | [.int i] => .ok (.int i) m
    | [.bl b] => .ok (.int (if b then 1 else 0)) m
    | _ => .bad
  | .all, ws, m => match ws with
    | [w] => match isLst m w with
      | some us => ofO m ((asBls us).map fun bs => .bl (bs.all id))
      | none => .bad
    | _ => .bad
  | .any, ws, m => match ws with
    | [w] => match isLst m w with
      | some us => ofO m ((asBls us).map fun bs => .bl (bs.any id))
      | none => .bad
    | _ => .bad
  | .min2, ws, m => match ws with
    | [.int i, .int j] => .ok (.int (if j < i then j else i)) m
    | _ => .bad
  | .max2, ws, m => match ws with
    | [.int i, .int j] => .ok (.int (if j > i then j else i)) m
    | _ => .bad
  | .list, ws, m => match ws with
    | [w] => match seqW m w with
      | some us => alloc (.lst us) m
      | none => .bad
    | _ => .bad
  | .tuple, ws, m => match ws with
    | [w] => match seqW m w with
      | some us => .ok (.tup us) m
      | none => .bad
    | _ => .bad
  | .sorted, ws, m => match ws with
    | [w] => match isLst m w with
      | some us => if srtOk us = true then alloc (.lst (srtB codeW us)) m else .bad
      | none => match w with
        | .tup us => if setOk us = true then alloc (.lst (srtB codeW us)) m else .bad
        | _ => .bad
    | _ => .bad
  | .dict1, ws, m => match ws with
    | [w] => match dctAt m w with
      | some kvs => alloc (.dct kvs) m
      | none => match isLst m w with
        | some us => match pairs2 us with
          | some kvs => alloc (.dct (mergeW [] kvs)) m
          | none => .bad
        | none => .bad
    | _ => .bad
/-- a set's members -/
def dedupW : List W → List W
  | [] => []
  | a :: r => if (dedupW r).any (fun b => codeW b == codeW a) = true then dedupW r else a :: dedupW r
/-- len(set(xs)), sorted(set(xs)) -/
def lsetW (w : W) (m : Mem) : R W := match seqW m w with
  | some us => if setOk us = true then .ok (.int (dedupW us).length) m else .bad
  | none => .bad
def ssetW (w : W) (m : Mem) : R W := match seqW m w with
  | some us => if setOk us = true then alloc (.lst (srtB codeW (dedupW us))) m else .bad
  | none => .bad
def strL : List W → Option (List Tx) := optL fun w => match w with
  | .str x => some x
  | _ => none
def joinT (sep : Tx) : List Tx → Tx
  | [] => []
  | [x] => x
  | x :: y :: r => x ++ sep ++ joinT sep (y :: r)
def bmW : Bm → W → List W → Mem → R W
  | .append, w, us, m => match w, us with
    | .obj k, [u] => match m[k]? with
      | some (.lst ws) => if ws.length < SL then .ok .non (m.set k (.lst (ws ++ [u]))) else .bad
      | _ => .bad
    | _, _ => .bad
  | .extend, w, us, m => match w, us with
    | .obj k, [.obj j] => match m[k]?, m[j]? with
      | some (.lst ws), some (.lst vs) => if ws.length + vs.length ≤ SL then .ok .non (m.set k (.lst (ws ++ vs))) else .bad
      | _, _ => .bad
    | _, _ => .bad
  | .popL, w, us, m => match w, us with
    | .obj k, [] => match m[k]? with
      | some (.lst ws) => match ws[ws.length - 1]? with
        | some u => .ok u (m.set k (.lst ws.dropLast))
        | none => .bad
      | _ => .bad
    | _, _ => .bad
  | .popAt, w, us, m => match w, us with
    | .obj k, [.int i] => match m[k]? with
      | some (.lst ws) => match ixI ws.length i with
        | some j => match ws[j]? with
          | some u => if -(2 ^ 63) ≤ i ∧ i < 2 ^ 63 then .ok u (m.set k (.lst (ws.eraseIdx j))) else .bad
          | none => .bad
        | none => .bad
      | _ => .bad
    | _, _ => .bad
  | .join, w, us, m => match w, us with
    | .str s, [u] => match seqW m u with
      | some ws => match strL ws with
        | some xs => if (xs.map List.length).sum + xs.length * s.length ≤ 16777216 then .ok (.str (joinT s xs)) m else .bad
        | none => .bad
      | none => .bad
    | _, _ => .bad
  | .index, w, us, m => match w, us with
    | .str s, [.str t] => ofO m ((indexT s t).map fun (n : Nat) => W.int n)
    | _, _ => .bad
  | .reverse, w, us, m => match w, us with
    | .obj k, [] => match m[k]? with
      | some (.lst ws) => .ok .non (m.set k (.lst ws.reverse))
      | _ => .bad
    | _, _ => .bad
  | .clear, w, us, m => match w, us with
    | .obj k, [] => match m[k]? with
      | some (.lst _) => .ok .non (m.set k (.lst []))
      | _ => .bad
    | _, _ => .bad
  | .remove, w, us, m => match w, us with
    | .obj k, [.str x] => match m[k]? with
      | some (.lst ws) => match strL ws with
        | some xs => match xs.findIdx? (fun y => decide (y = x)) with
          | some j => .ok .non (m.set k (.lst (ws.eraseIdx j)))
          | none => .bad
        | none => .bad
      | _ => .bad
    | _, _ => .bad
/-- the receiver's kind, ahead of the arguments -/
def isLstO (m : Mem) : W → Bool
  | .obj k => match m[k]? with
    | some (.lst _) => true
    | _ => false
  | _ => false
def isStrW : W → Bool
  | .str _ => true
  | _ => false
def rcvOk (n : Bm) (w : W) (m : Mem) : Bool := match n with
  | .join => isStrW w
  | .index => isStrW w
  | _ => isLstO m w
def kdW (m : Mem) (k : Kd) : W → Option Bool
  | .non => some false
  | .bl _ => some (k = .bool || k = .int)
  | .int _ => some (k = .int)
  | .str _ => some (k = .str)
  | .tup _ => some (k = .tuple)
  | .frz _ => some (k = .list)
  | .obj j => match m[j]? with
    | some (.lst _) => some (k = .list)
    | some (.dct _) => some (k = .dict)
    | some (.dcl _) => some (k = .dict)
    | some (.ins c _) => some (k = .cls c)
    | none => none
  | .exc _ _ => none
def isiW (m : Mem) (w : W) (ks : List Kd) : R W := ofO m ((optL (fun k => kdW m k w) ks).map fun bs => .bl (bs.any id))

/-! ### what is walked, turn by turn -/
inductive Bs where
  | lv (k : Nat) | st (ws : List W) | dk (k : Nat)
inductive Src where
  | one (b : Bs) | enm (b : Bs) | zip (b c : Bs)
/-- bad, or the end, or an item -/
def Bs.at (b : Bs) (i : Nat) (m : Mem) : Option (Option W) := match b with
  | .st ws => some ws[i]?
  | .lv k => match m[k]? with
    | some (.lst ws) => some ws[i]?
    | _ => none
  | .dk k => match m[k]? with
    | some (.dcl kvs) => some (kvs[i]?.map (·.1))
    | _ => none
def Bs.len (b : Bs) (m : Mem) : Nat := match b with
  | .st ws => ws.length
  | .lv k => match m[k]? with
    | some (.lst ws) => ws.length
    | _ => 0
  | .dk k => match m[k]? with
    | some (.dcl kvs) => kvs.length
    | _ => 0
def Src.at (s : Src) (i : Nat) (m : Mem) : Option (Option W) := match s with
  | .one b => b.at i m
  | .enm b => (b.at i m).map fun o => o.map fun w => .tup [.int i, w]
  | .zip b c => match b.at i m, c.at i m with
    | some (some w), some (some u) => some (some (.tup [w, u]))
    | some none, some _ => some none
    | some (some _), some none => some none
    | _, _ => none
def Src.len (s : Src) (m : Mem) : Nat := match s with
  | .one b => b.len m
  | .enm b => b.len m
  | .zip b _ => b.len m
def srcOf (m : Mem) : W → Option Bs
  | .str x => some (.st (x.map fun c => .str [c]))
  | .tup ws => some (.st ws)
  | .frz ns => some (.st (ns.map .int))
  | .obj k => match m[k]? with
    | some (.lst _) => some (.lv k)
    | _ => none
  | _ => none
/-- .. under enumerate -/
def srcOfE (m : Mem) : W → Option Bs
  | .tup _ => none
  | w => srcOf m w
/-- small enough (a look that stops at an unknown number) -/
def smI (i : Int) : Bool := Nat.ble i.natAbs 4611686018427387903
theorem smI_iff {i : Int} : smI i = true ↔ -(2 ^ 62) < i ∧ i < 2 ^ 62 := by
  unfold smI
  rw [Nat.ble_eq]
  omega
def rngW : List W → Option (List W)
  | [.int j] => if smI j = true then some ((List.range j.toNat).map fun (n : Nat) => .int n) else none
  | [.int i, .int j] => if smI i = true ∧ smI j = true then some ((List.range (j - i).toNat).map fun (n : Nat) => .int (i + n)) else none
  | _ => none
/-- so many turns at most -/
def forRun (s : Src) (body : W → Env → Mem → RS) : Nat → Nat → Env → Mem → RS
  | 0, _, _, _ => .bad
  | n + 1, i, e, m => match s.at i m with
    | none => .bad
    | some none => .next e m
    | some (some x) => match body x e m with
      | .next e' m' => forRun s body n (i + 1) e' m'
      | r => r
def whRun (test : Env → Mem → R Bool) (body : Env → Mem → RS) : Nat → Env → Mem → RS
  | 0, _, _ => .bad
  | n + 1, e, m => match test e m with
    | .ok true m1 => match body e m1 with
      | .next e' m' => whRun test body n e' m'
      | r => r
    | .ok false m1 => .next e m1
    | .rse c v m1 => .rse c v e m1
    | .bad => .bad
def FUEL : Nat := 1152921504606846976
/-- the turns of a comprehension: body says none (left out) or the element; the list stands at k -/
def lcRun (s : Src) (k : Nat) (body : W → Mem → R (Option W)) : Nat → Nat → Mem → R Unit
  | 0, _, _ => .bad
  | n + 1, i, m => match s.at i m with
    | none => .bad
    | some none => .ok () m
    | some (some x) => match body x m with
      | .ok none m1 => lcRun s k body n (i + 1) m1
      | .ok (some w) m1 => match m1[k]? with
        | some (.lst ws) => if ws.length < SL then lcRun s k body n (i + 1) (m1.set k (.lst (ws ++ [w]))) else .bad
        | _ => .bad
      | _ => .bad
/-- the turns of a dict comprehension; the dict stands at k -/
def dcRun (s : Src) (k : Nat) (body : W → Mem → R (Option (W × W))) : Nat → Nat → Mem → R Unit
  | 0, _, _ => .bad
  | n + 1, i, m => match s.at i m with
    | none => .bad
    | some none => .ok () m
    | some (some x) => match body x m with
      | .ok none m1 => dcRun s k body n (i + 1) m1
      | .ok (some p) m1 => match m1[k]? with
        | some (.dct kvs) => if isKey p.1 = true ∧ kvs.length < SL then dcRun s k body n (i + 1) (m1.set k (.dct (putW kvs p.1 p.2))) else .bad
        | _ => .bad
      | _ => .bad
/-- o[i] = w -/
def subW (u v w : W) (m : Mem) : Option Mem := match u with
  | .obj k => match m[k]? with
    | some (.lst ws) => match v with
      | .int n => match ixI ws.length n with
        | some j => some (m.set k (.lst (ws.set j w)))
        | none => none
      | _ => none
    | some (.dct kvs) => if isKey v = true ∧ kvs.length < SL then some (m.set k (.dct (putW kvs v w))) else none
    | _ => none
  | _ => none
def R.seq (r : R Unit) (F : Mem → R Unit) : R Unit := match r with
  | .ok _ m1 => F m1
  | _ => .bad
/-- the outer turns of one with two clauses -/
def lcRun2 (s : Src) (body : W → Mem → R Unit) : Nat → Nat → Mem → R Unit
  | 0, _, _ => .bad
  | n + 1, i, m => match s.at i m with
    | none => .bad
    | some none => .ok () m
    | some (some x) => (body x m).seq fun m1 => lcRun2 s body n (i + 1) m1

/-- an attribute is stored -/
def putA (f : Nat) (w : W) : List (Nat × W) → List (Nat × W)
  | [] => [(f, w)]
  | (g, u) :: r => if g = f then (g, w) :: r else (g, u) :: putA f w r

/-! ### targets -/
mutual
def asgT (m : Mem) : CT → W → Env → Option Env
  | .nm i, w, e => some (e.set i (some w))
  | .tp l, w, e => match w with
    | .tup ws => asgL m l ws e
    | _ => none
def asgL (m : Mem) : CTL → List W → Env → Option Env
  | .nil, [], e => some e
  | .cons t l, w :: ws, e => match asgT m t w e with
    | some e' => asgL m l ws e'
    | none => none
  | _, _, _ => none
end
def wipeE (e : Env) : List Nat → Env
  | [] => e
  | v :: vs => (wipeE e vs).set v none

/-- behind a walk the dict is no more locked -/
def unlkR (k : Nat) (kvs : List (W × W)) : R W → R W
  | .ok w m => .ok w (m.set k (.dct kvs))
  | _ => .bad
def unlkS (k : Nat) (kvs : List (W × W)) : RS → RS
  | .next e m => .next e (m.set k (.dct kvs))
  | .ret w m => .ret w (m.set k (.dct kvs))
  | _ => .bad
/-- the dict that a tree names -/
def dctOf (r : R W) (m : Mem) : Option (Nat × List (W × W)) := match r with
  | .ok (.obj k) _ => match m[k]? with
    | some (.dct kvs) => some (k, kvs)
    | _ => none
  | _ => none
/-! ### the interpreter; call: what a def hands back -/
abbrev Caller := Nat → List W → Mem → R W
section
variable (T : Tab) (cl : Caller)
mutual
def ev : CE → Env → Mem → R W
  | .var i, e, m => match e[i]? with
    | some (some w) => .ok w m
    | _ => .bad
  | .non, _, m => .ok .non m
  | .bl b, _, m => .ok (.bl b) m
  | .int i, _, m => .ok (.int i) m
  | .str x, _, m => .ok (.str x) m
  | .glo g, _, m => ofO m (T.gl g)
  | .bin o a b, e, m => (ev a e m).bind fun w m1 => (ev b e m1).bind fun u m2 => binop o w u m2
  | .neg a, e, m => (ev a e m).bind fun w m1 => negW m1 w
  | .not a, e, m => (ev a e m).bind fun w m1 => (tru w m1).bind fun b m2 => .ok (.bl (!b)) m2
  | .cmp o a b, e, m => (ev a e m).bind fun w m1 => (ev b e m1).bind fun u m2 => cmpop o w u m2
  | .chain o p a b c, e, m => (ev a e m).bind fun w m1 => (ev b e m1).bind fun u m2 => (cmpop o w u m2).bind fun x m3 => match x with
    | .bl true => (ev c e m3).bind fun v m4 => cmpop p u v m4
    | .bl false => .ok (.bl false) m3
    | _ => .bad
  | .and a b, e, m => (ev a e m).bind fun w m1 => (tru w m1).bind fun t m2 => if t then ev b e m2 else .ok w m2
  | .or a b, e, m => (ev a e m).bind fun w m1 => (tru w m1).bind fun t m2 => if t then .ok w m2 else ev b e m2
  | .ite c a b, e, m => (ev c e m).bind fun w m1 => (tru w m1).bind fun t m2 => if t then ev a e m2 else ev b e m2
  | .tup l, e, m => (evL l e m).bind fun ws m1 => .ok (.tup ws) m1
  | .lst l, e, m => (evL l e m).bind fun ws m1 => alloc (.lst ws) m1
  | .dct l, e, m => (evL l e (m ++ [.dct []])).bind fun ws m1 => dctEnd m.length ws m1
  | .idx a b, e, m => (ev a e m).bind fun w m1 => (ev b e m1).bind fun u m2 => idxW w u m2
  | .slc a lo hi, e, m => (ev a e m).bind fun w m1 => (prt lo.isN (ev lo e m1)).bind fun l m2 => (prt hi.isN (ev hi e m2)).bind fun h m3 => slcW w l h m3
  | .fld a f, e, m => (ev a e m).bind fun w m1 => match w with
    | .obj k => match m1[k]? with
      | some (.ins _ fs) => ofO m1 (fs.lookup f)
      | _ => .bad
    | _ => .bad
  | .call f l, e, m => (evL l e m).bind fun ws m1 => cl f ws m1
  | .meth n r l, e, m => (ev r e m).bind fun w m1 => match w with
    | .obj k => match m1[k]? with
      | some (.ins c _) => match T.cl c with
        | some C => match C.meths.lookup n with
          | some f => (evL l e m1).bind fun ws m2 => cl f (w :: ws) m2
          | none => .bad
        | none => .bad
      | _ => .bad
    | _ => .bad
  | .make c l, e, m => (evL l e m).bind fun ws m1 => match T.cl c with
    | some C => (cl C.init (.obj m1.length :: ws) (m1 ++ [.ins c []])).bind fun w m2 => match w with
      | .non => .ok (.obj m1.length) m2
      | _ => .bad
    | none => .bad
  | .callK f l kl pm, e, m => (evL l e m).bind fun ws m1 => (evL kl e m1).bind fun us m2 => match permW pm (ws ++ us) with
    | some vs => cl f vs m2
    | none => .bad
  | .methK n r l kl pm, e, m => (ev r e m).bind fun w m1 => match w with
    | .obj k => match m1[k]? with
      | some (.ins c _) => match T.cl c with
        | some C => match C.meths.lookup n with
          | some f => (evL l e m1).bind fun ws m2 => (evL kl e m2).bind fun us m3 => match permW pm (w :: (ws ++ us)) with
            | some vs => cl f vs m3
            | none => .bad
          | none => .bad
        | none => .bad
      | _ => .bad
    | _ => .bad
  | .makeK c l kl pm, e, m => (evL l e m).bind fun ws m1 => (evL kl e m1).bind fun us m2 => match T.cl c with
    | some C => match permW pm (.obj m2.length :: (ws ++ us)) with
      | some vs => (cl C.init vs (m2 ++ [.ins c []])).bind fun w m3 => match w with
        | .non => .ok (.obj m2.length) m3
        | _ => .bad
      | none => .bad
    | none => .bad
  | .blt b l, e, m => (evL l e m).bind fun ws m1 => bltW b ws m1
  | .bm n r l, e, m => (ev r e m).bind fun w m1 => if rcvOk n w m1 then (evL l e m1).bind fun ws m2 => bmW n w ws m2 else .bad
  | .lset a, e, m => (ev a e m).bind fun w m1 => lsetW w m1
  | .sset a, e, m => (ev a e m).bind fun w m1 => ssetW w m1
  | .dc own kx vx t it ifs, e, m => (evI it e m).bind fun s m1 =>
      (dcRun s m1.length (fun x m2 => match asgT m2 t x (wipeE e own) with
        | some e2 => (evT ifs e2 m2).bind fun b m3 => if b then (ev kx e2 m3).bind fun p m4 => (ev vx e2 m4).bind fun q m5 => .ok (some (p, q)) m5 else .ok none m3
        | none => .bad) (s.len m1 + 1) 0 (m1 ++ [.dct []])).bind fun _ m6 => .ok (.obj m1.length) m6
  | .lk d a, e, m => match dctOf (ev d e m) m with
    | some (k, kvs) => unlkR k kvs (ev a e (m.set k (.dcl kvs)))
    | none => .bad
  | .isi2 a k1 k2, e, m => (ev a e m).bind fun w m1 => isiW m1 w [k1, k2]
  | .isi a ks, e, m => (ev a e m).bind fun w m1 => isiW m1 w ks
  | .lc own elt t it ifs, e, m => (evI it e m).bind fun s m1 =>
      (lcRun s m1.length (fun x m2 => match asgT m2 t x (wipeE e own) with
        | some e2 => (evT ifs e2 m2).bind fun b m3 => if b then (ev elt e2 m3).bind fun w m4 => .ok (some w) m4 else .ok none m3
        | none => .bad) (s.len m1 + 1) 0 (m1 ++ [.lst []])).bind fun _ m5 => .ok (.obj m1.length) m5
  | .lc2 own own2 elt t it t2 it2 ifs2, e, m => (evI it e m).bind fun s m1 =>
      (lcRun2 s (fun x m2 => match asgT m2 t x (wipeE e own) with
        | some e2 => (evI it2 e2 m2).bind fun s2 m3 =>
            lcRun s2 m1.length (fun y m4 => match asgT m4 t2 y (wipeE e2 own2) with
              | some e3 => (evT ifs2 e3 m4).bind fun b m5 => if b then (ev elt e3 m5).bind fun w m6 => .ok (some w) m6 else .ok none m5
              | none => .bad) (s2.len m3 + 1) 0 m3
        | none => .bad) (s.len m1 + 1) 0 (m1 ++ [.lst []])).bind fun _ m5 => .ok (.obj m1.length) m5
def evL : CL → Env → Mem → R (List W)
  | .nil, _, m => .ok [] m
  | .cons a l, e, m => (ev a e m).bind fun w m1 => (evL l e m1).bind fun ws m2 => .ok (w :: ws) m2
/-- tests, all of them -/
def evT : CL → Env → Mem → R Bool
  | .nil, _, m => .ok true m
  | .cons a l, e, m => (ev a e m).bind fun w m1 => (tru w m1).bind fun b m2 => if b then evT l e m2 else .ok false m2
def evI : CI → Env → Mem → R Src
  | .ex a, e, m => (ev a e m).bind fun w m1 => ofO m1 ((srcOf m1 w).map .one)
  | .rng l, e, m => (evL l e m).bind fun ws m1 => ofO m1 ((rngW ws).map fun us => .one (.st us))
  | .enm a, e, m => (ev a e m).bind fun w m1 => ofO m1 ((srcOfE m1 w).map .enm)
  | .dk a, e, m => (ev a e m).bind fun w m1 => match w with
    | .obj k => match m1[k]? with
      | some (.dcl _) => .ok (.one (.dk k)) m1
      | _ => .bad
    | _ => .bad
  | .zip l, e, m => (evL l e m).bind fun ws m1 => match ws with
    | [w, u] => match srcOf m1 w, srcOf m1 u with
      | some b, some c => .ok (.zip b c) m1
      | _, _ => .bad
    | _ => .bad
end
def RS.ofR {A : Type} (e : Env) (r : R A) (f : A → Mem → RS) : RS := match r with
  | .ok a m => f a m
  | .rse c v m => .rse c v e m
  | .bad => .bad
mutual
def xS : CS → Env → Mem → RS
  | .pass, e, m => .next e m
  | .expr a, e, m => .ofR e (ev T cl a e m) fun _ m1 => .next e m1
  | .ret a, e, m => .ofR e (ev T cl a e m) fun w m1 => .ret w m1
  | .retN, _, m => .ret .non m
  | .set i a, e, m => .ofR e (ev T cl a e m) fun w m1 => .next (e.set i (some w)) m1
  | .unp t a, e, m => .ofR e (ev T cl a e m) fun w m1 => match asgT m1 (.tp t) w e with
    | some e' => .next e' m1
    | none => .bad
  | .par i j a b, e, m => .ofR e (ev T cl a e m) fun w m1 => .ofR e (ev T cl b e m1) fun u m2 => .next ((e.set i (some w)).set j (some u)) m2
  | .sub o i a, e, m => .ofR e (ev T cl a e m) fun w m1 => .ofR e (ev T cl o e m1) fun u m2 => .ofR e (ev T cl i e m2) fun v m3 => match subW u v w m3 with
    | some m4 => .next e m4
    | none => .bad
  | .fld o f a, e, m => .ofR e (ev T cl a e m) fun w m1 => .ofR e (ev T cl o e m1) fun u m2 => match u with
    | .obj k => match m2[k]? with
      | some (.ins c fs) => if fs.length < 900 then .next e (m2.set k (.ins c (putA f w fs))) else .bad
      | _ => .bad
    | _ => .bad
  | .aug i a, e, m => match e[i]? with
    | some (some w) => .ofR e (ev T cl a e m) fun u m1 => .ofR e (match w, u with
        | .int x, .int y => .ok (.int (x + y)) m1
        | .str x, .str y => if x.length + y.length ≤ SL then .ok (.str (x ++ y)) m1 else .bad
        | _, _ => .bad) fun v m2 => .next (e.set i (some v)) m2
    | _ => .bad
  | .iff c a b, e, m => .ofR e (ev T cl c e m) fun w m1 => .ofR e (tru w m1) fun t m2 => if t then xB a e m2 else xB b e m2
  | .whl c b, e, m => whRun (fun e1 m1 => (ev T cl c e1 m1).bind tru) (fun e1 m1 => xB b e1 m1) FUEL e m
  | .for t it b, e, m => .ofR e (evI T cl it e m) fun s m1 => forRun s (fun x e1 m2 => match asgT m2 t x e1 with
      | some e2 => xB b e2 m2
      | none => .bad) (s.len m1 + 1) 0 e m1
  | .rse c a, e, m => .ofR e (ev T cl a e m) fun w m1 => .rse c w e m1
  | .nvr, _, _ => .bad
  | .lk d s, e, m => match dctOf (ev T cl d e m) m with
    | some (k, kvs) => unlkS k kvs (xS s e (m.set k (.dcl kvs)))
    | none => .bad
def xB : CB → Env → Mem → RS
  | .nil, e, m => .next e m
  | .cons s b, e, m => match xS s e m with
    | .next e' m' => xB b e' m'
    | r => r
end
end
/-- a def, called; so deep at most -/
def callN (T : Tab) : Nat → Caller
  | 0, _, _, _ => .bad
  | n + 1, f, ws, m => match T.fn f with
    | some F => if ws.length = F.np then (match xB T (callN T n) F.body (ws.map some ++ List.replicate (F.ns - F.np) none) m with
      | .ret w m' => .ok w m'
      | .next _ m' => .ok .non m'
      | .rse c v _ m' => .rse c v m'
      | .bad => .bad) else .bad
    | none => .bad
end Mi
end

section
set_option Elab.async false
set_option linter.all false
set_option maxRecDepth 100000
/-! MiB: how the interpreter's values and memory lie in the heap; what a reading of the hand layer is for a tree of the interpreter. -/
namespace Mi
open PySem PySem.Spec PyProof.Rows L2

/-- the script: a list of ints that nobody changes -/
def FzL (K : PySem.W.Frag) (H : Hp) (a : Addr) (xs : List V) : Prop :=
  (∃ o, H a = some (.frz o (.lst xs))) ∨
    ∃ (o : Obj) (its : Array Value) (n : Nat), K.lookup a = some o ∧ o.cls = .type "list" ∧ o.dict = none ∧ o.data = .seq its n ∧ its.size ≤ sizeLine ∧ Vals xs its.toList
theorem FzL.sq {K : PySem.W.Frag} {H : Hp} {a : Addr} {xs : List V} (h : FzL K H a xs) : SqL K H a xs := by
  rcases h with ⟨o, h⟩ | h
  · exact .inl (.inr ⟨o, h⟩)
  · exact .inr h

mutual
inductive Rep (K : PySem.W.Frag) (B : List Addr) (H : Hp) : W → V → Prop
  | non : Rep K B H .non .non
  | bl (b : Bool) : Rep K B H (.bl b) (.bl b)
  | int (i : Int) : Rep K B H (.int i) (.int i)
  | str (x : Tx) : Rep K B H (.str x) (.str (sx x))
  | tup {ws : List W} {a : Addr} {vs : List V} : SqT K H a vs → Reps K B H ws vs → Rep K B H (.tup ws) (.ref a)
  | obj {k : Nat} {a : Addr} : B[k]? = some a → Rep K B H (.obj k) (.ref a)
  | frz {ns : List Int} {a : Addr} : FzL K H a (ns.map V.int) → Rep K B H (.frz ns) (.ref a)
inductive Reps (K : PySem.W.Frag) (B : List Addr) (H : Hp) : List W → List V → Prop
  | nil : Reps K B H [] []
  | cons {w : W} {v : V} {ws : List W} {vs : List V} : Rep K B H w v → Reps K B H ws vs → Reps K B H (w :: ws) (v :: vs)
end

/-- what stays: places, tuples, what is frozen -/
structure Grow (B B' : List Addr) (H H' : Hp) : Prop where
  pre : ∀ (k : Nat) (a : Addr), B[k]? = some a → B'[k]? = some a
  tup : ∀ a xs, H a = some (.tup xs) → H' a = some (.tup xs)
  frz : ∀ a o u, H a = some (.frz o u) → H' a = some (.frz o u)
theorem Grow.refl (B : List Addr) (H : Hp) : Grow B B H H := ⟨fun _ _ h => h, fun _ _ h => h, fun _ _ _ h => h⟩
theorem Grow.trans {B B1 B2 : List Addr} {H H1 H2 : Hp} (g : Grow B B1 H H1) (k : Grow B1 B2 H1 H2) : Grow B B2 H H2 :=
  ⟨fun i a h => k.pre i a (g.pre i a h), fun a xs h => k.tup a xs (g.tup a xs h), fun a o u h => k.frz a o u (g.frz a o u h)⟩
/-- the same, but for what is locked -/
structure GrowL (B B' : List Addr) (H H' : Hp) : Prop where
  pre : ∀ (k : Nat) (a : Addr), B[k]? = some a → B'[k]? = some a
  tup : ∀ a xs, H a = some (.tup xs) → H' a = some (.tup xs)
  frz : ∀ a o u, (∀ ks, u ≠ .dK ks) → H a = some (.frz o u) → H' a = some (.frz o u)
theorem Grow.toL {B B' : List Addr} {H H' : Hp} (g : Grow B B' H H') : GrowL B B' H H' := ⟨g.pre, g.tup, fun a o u _ h => g.frz a o u h⟩
section
variable {K : PySem.W.Frag} {B B' : List Addr} {H H' : Hp}
theorem GrowL.sqT (g : GrowL B B' H H') {a : Addr} {xs : List V} (h : SqT K H a xs) : SqT K H' a xs := by
  rcases h with (h | ⟨o, h⟩) | h
  · exact .inl (.inl (g.tup _ _ h))
  · exact .inl (.inr ⟨o, g.frz _ _ _ (fun _ z => nomatch z) h⟩)
  · exact .inr h
theorem GrowL.fz (g : GrowL B B' H H') {a : Addr} {xs : List V} (h : FzL K H a xs) : FzL K H' a xs := by
  rcases h with ⟨o, h⟩ | h
  · exact .inl ⟨o, g.frz _ _ _ (fun _ z => nomatch z) h⟩
  · exact .inr h
theorem Grow.sqT (g : Grow B B' H H') {a : Addr} {xs : List V} (h : SqT K H a xs) : SqT K H' a xs := by
  rcases h with (h | ⟨o, h⟩) | h
  · exact .inl (.inl (g.tup _ _ h))
  · exact .inl (.inr ⟨o, g.frz _ _ _ h⟩)
  · exact .inr h
theorem Grow.fz (g : Grow B B' H H') {a : Addr} {xs : List V} (h : FzL K H a xs) : FzL K H' a xs := by
  rcases h with ⟨o, h⟩ | h
  · exact .inl ⟨o, g.frz _ _ _ h⟩
  · exact .inr h
mutual
theorem Rep.growL (g : GrowL B B' H H') : ∀ (w : W) (v : V), Rep K B H w v → Rep K B' H' w v
  | .non, _, h => by cases h; exact .non
  | .bl _, _, h => by cases h; exact .bl _
  | .int _, _, h => by cases h; exact .int _
  | .str _, _, h => by cases h; exact .str _
  | .tup ws, _, h => by cases h with | tup h1 h2 => exact .tup (g.sqT h1) (Reps.growL g ws _ h2)
  | .obj _, _, h => by cases h with | obj h1 => exact .obj (g.pre _ _ h1)
  | .frz _, _, h => by cases h with | frz h1 => exact .frz (g.fz h1)
  | .exc _ _, _, h => by cases h
theorem Reps.growL (g : GrowL B B' H H') : ∀ (ws : List W) (vs : List V), Reps K B H ws vs → Reps K B' H' ws vs
  | [], _, h => by cases h; exact .nil
  | w :: ws, _, h => by cases h with | cons h1 h2 => exact .cons (Rep.growL g w _ h1) (Reps.growL g ws _ h2)
end
theorem Rep.grow (g : Grow B B' H H') (w : W) (v : V) (h : Rep K B H w v) : Rep K B' H' w v := Rep.growL g.toL w v h
theorem Reps.grow (g : Grow B B' H H') (ws : List W) (vs : List V) (h : Reps K B H ws vs) : Reps K B' H' ws vs := Reps.growL g.toL ws vs h
theorem Reps.length : ∀ {ws : List W} {vs : List V}, Reps K B H ws vs → vs.length = ws.length
  | [], _, h => by cases h; rfl
  | _ :: _, _, h => by cases h with | cons _ t => simp [Reps.length t]
theorem Reps.get : ∀ {ws : List W} {vs : List V} {i : Nat} {w : W}, Reps K B H ws vs → ws[i]? = some w → ∃ v, vs[i]? = some v ∧ Rep K B H w v
  | [], _, _, _, h, e => by simp at e
  | w :: ws, _, 0, _, h, e => by
    cases h with
    | cons h1 h2 =>
      simp at e
      subst e
      exact ⟨_, rfl, h1⟩
  | w :: ws, _, i + 1, _, h, e => by
    cases h with
    | cons h1 h2 =>
      obtain ⟨v, q, r⟩ := Reps.get (i := i) h2 (by simpa using e)
      exact ⟨v, by simpa using q, r⟩
theorem Reps.append : ∀ {ws us : List W} {vs zs : List V}, Reps K B H ws vs → Reps K B H us zs → Reps K B H (ws ++ us) (vs ++ zs)
  | [], _, _, _, h, k => by cases h; exact k
  | _ :: _, _, _, _, h, k => by cases h with | cons h1 h2 => exact .cons h1 (Reps.append h2 k)
theorem Reps.set : ∀ {ws : List W} {vs : List V} {w : W} {v : V} (i : Nat), Reps K B H ws vs → Rep K B H w v → Reps K B H (ws.set i w) (vs.set i v)
  | [], _, _, _, _, h, _ => by cases h; exact .nil
  | _ :: _, _, _, _, 0, h, k => by cases h with | cons h1 h2 => exact .cons k h2
  | _ :: _, _, _, _, i + 1, h, k => by cases h with | cons h1 h2 => exact .cons h1 (Reps.set i h2 k)
theorem Reps.drop : ∀ {ws : List W} {vs : List V} (n : Nat), Reps K B H ws vs → Reps K B H (ws.drop n) (vs.drop n)
  | _, _, 0, h => h
  | [], _, _ + 1, h => by cases h; exact .nil
  | _ :: _, _, n + 1, h => by cases h with | cons _ h2 => exact Reps.drop n h2
theorem Reps.take : ∀ {ws : List W} {vs : List V} (n : Nat), Reps K B H ws vs → Reps K B H (ws.take n) (vs.take n)
  | _, _, 0, _ => by simp; exact .nil
  | [], _, _ + 1, h => by cases h; exact .nil
  | _ :: _, _, n + 1, h => by cases h with | cons h1 h2 => exact .cons h1 (Reps.take n h2)
theorem Reps.dropLast {ws : List W} {vs : List V} (h : Reps K B H ws vs) : Reps K B H ws.dropLast vs.dropLast := by
  rw [List.dropLast_eq_take, List.dropLast_eq_take, h.length]
  exact h.take _
theorem Reps.eraseIdx : ∀ {ws : List W} {vs : List V} (i : Nat), Reps K B H ws vs → Reps K B H (ws.eraseIdx i) (vs.eraseIdx i)
  | [], _, _, h => by cases h; exact .nil
  | _ :: _, _, 0, h => by cases h with | cons _ h2 => exact h2
  | _ :: _, _, i + 1, h => by cases h with | cons h1 h2 => exact .cons h1 (Reps.eraseIdx i h2)
theorem Reps.reverse : ∀ {ws : List W} {vs : List V}, Reps K B H ws vs → Reps K B H ws.reverse vs.reverse
  | [], _, h => by cases h; exact .nil
  | _ :: _, _, h => by
    cases h with
    | cons h1 h2 =>
      rw [List.reverse_cons, List.reverse_cons]
      exact (Reps.reverse h2).append (.cons h1 .nil)
theorem Reps.rep {ws : List W} {vs : List V} (h : Reps K B H ws vs) : ∀ k : Nat, Reps K B H (List.replicate k ws).flatten (List.replicate k vs).flatten
  | 0 => .nil
  | k + 1 => by
    rw [List.replicate_succ, List.replicate_succ, List.flatten_cons, List.flatten_cons]
    exact h.append (h.rep k)
theorem Reps.ints : ∀ ns : List Int, Reps K B H (ns.map .int) (ns.map V.int)
  | [] => .nil
  | n :: ns => .cons (.int n) (Reps.ints ns)
end

/-! ### the memory -/

/-- the names of the text by number -/
structure Nms where
  cls : List (Nat × Str)
  mth : List Str
  fld : List Str
  glo : List (Nat × Str)
  exc : List (Str × Str)
def Nms.cl (N : Nms) (c : Nat) : Option Str := N.cls.lookup c
def Nms.gl (N : Nms) (g : Nat) : Option Str := N.glo.lookup g
/-- attributes -/
inductive FRel (N : Nms) (K : PySem.W.Frag) (B : List Addr) (H : Hp) : List (Nat × W) → List (Str × V) → Prop
  | nil : FRel N K B H [] []
  | cons {f : Nat} {x : Str} {w : W} {v : V} {fs : List (Nat × W)} {gs : List (Str × V)} : N.fld[f]? = some x → Rep K B H w v → FRel N K B H fs gs → FRel N K B H ((f, w) :: fs) ((x, v) :: gs)
/-- a key -/
def KeyR : W → Key → Prop
  | .int i, .inl j => j = i
  | .str x, .inr y => y = sx x
  | _, _ => False
inductive DRel (K : PySem.W.Frag) (B : List Addr) (H : Hp) : List (W × W) → List (Key × V) → Prop
  | nil : DRel K B H [] []
  | cons {w u : W} {k : Key} {v : V} {kvs : List (W × W)} {ks : List (Key × V)} : KeyR w k → Rep K B H u v → DRel K B H kvs ks → DRel K B H ((w, u) :: kvs) ((k, v) :: ks)
def ObR (N : Nms) (K : PySem.W.Frag) (B : List Addr) (H : Hp) : Ob → Addr → Prop
  | .lst ws, a => ∃ vs, H a = some (.lst vs) ∧ Reps K B H ws vs
  | .dct kvs, a => ∃ ks, H a = some (.dK ks) ∧ DRel K B H kvs ks
  | .dcl kvs, a => ∃ o ks, H a = some (.frz o (.dK ks)) ∧ DRel K B H kvs ks
  | .ins c fs, a => ∃ x dx gs, N.cl c = some x ∧ H a = some (.ins (He.ga K x) dx gs) ∧ FRel N K B H fs gs
structure RelM (N : Nms) (K : PySem.W.Frag) (B : List Addr) (m : Mem) (H : Hp) : Prop where
  len : B.length = m.length
  nd : B.Nodup
  ob : ∀ (k : Nat) (o : Ob), m[k]? = some o → ∃ a, B[k]? = some a ∧ ObR N K B H o a
structure RelE (K : PySem.W.Frag) (B : List Addr) (H : Hp) (e : Env) (σ : L2.St) : Prop where
  len : e.length = σ.length
  get : ∀ (i : Nat) (w : W), e[i]? = some (some w) → ∃ v, σ[i]? = some (some v) ∧ Rep K B H w v
section
variable {N : Nms} {K : PySem.W.Frag} {B B' : List Addr} {H H' : Hp} {m : Mem}
theorem FRel.growL (g : GrowL B B' H H') : ∀ {fs : List (Nat × W)} {gs : List (Str × V)}, FRel N K B H fs gs → FRel N K B' H' fs gs
  | _, _, .nil => .nil
  | _, _, .cons h r t => .cons h (Rep.growL g _ _ r) (FRel.growL g t)
theorem FRel.grow (g : Grow B B' H H') {fs : List (Nat × W)} {gs : List (Str × V)} (h : FRel N K B H fs gs) : FRel N K B' H' fs gs := FRel.growL g.toL h
theorem FRel.length : ∀ {fs : List (Nat × W)} {gs : List (Str × V)}, FRel N K B H fs gs → gs.length = fs.length
  | _, _, .nil => rfl
  | _, _, .cons _ _ t => by simp [FRel.length t]
theorem fld_inj (hn : N.fld.Nodup) {f g : Nat} {x : Str} (h1 : N.fld[f]? = some x) (h2 : N.fld[g]? = some x) : f = g := nodup_ix hn h1 h2
theorem FRel.look (hn : N.fld.Nodup) : ∀ {fs : List (Nat × W)} {gs : List (Str × V)} {f : Nat} {x : Str} {w : W}, FRel N K B H fs gs → N.fld[f]? = some x → fs.lookup f = some w → ∃ v, gs.lookup x = some v ∧ Rep K B H w v
  | _, _, f, x, w, .nil, _, e => by simp at e
  | _, _, f, x, w, @FRel.cons _ _ _ _ g y u v fs gs h r t, hx, e => by
    by_cases q : f = g
    · subst q
      rw [hx] at h
      cases h
      have e1 : some u = some w := by
        rw [← e]
        simp [List.lookup]
      cases e1
      exact ⟨v, by simp [List.lookup], r⟩
    · have n1 : (f == g) = false := beq_eq_false_iff_ne.mpr q
      have n2 : (x == y) = false := beq_eq_false_iff_ne.mpr fun z => q (fld_inj hn hx (z ▸ h))
      have e1 : fs.lookup f = some w := by
        rw [← e]
        simp [List.lookup, n1]
      obtain ⟨v', a, b⟩ := FRel.look hn t hx e1
      exact ⟨v', by simp [List.lookup, n2, a], b⟩
theorem FRel.no : ∀ {fs : List (Nat × W)} {gs : List (Str × V)} {x : Str}, FRel N K B H fs gs → x ∉ N.fld → gs.lookup x = none
  | _, _, _, .nil, _ => rfl
  | _, _, x, @FRel.cons _ _ _ _ g y u v fs gs h r t, hx => by
    have n2 : (x == y) = false := beq_eq_false_iff_ne.mpr fun z => hx (z ▸ List.mem_of_getElem? h)
    simp [List.lookup, n2, FRel.no t hx]
theorem FRel.put (hn : N.fld.Nodup) : ∀ {fs : List (Nat × W)} {gs : List (Str × V)} {f : Nat} {x : Str} {w : W} {v : V}, FRel N K B H fs gs → N.fld[f]? = some x → Rep K B H w v → FRel N K B H (putA f w fs) (putF x v gs)
  | _, _, f, x, w, v, .nil, hx, r => .cons hx r .nil
  | _, _, f, x, w, v, @FRel.cons _ _ _ _ g y u z fs gs h r t, hx, rw' => by
    show FRel N K B H (if g = f then (g, w) :: fs else (g, u) :: putA f w fs) (if y = x then (y, v) :: gs else (y, z) :: putF x v gs)
    by_cases q : g = f
    · subst q
      rw [hx] at h
      cases h
      rw [if_pos rfl, if_pos rfl]
      exact .cons hx rw' t
    · rw [if_neg q, if_neg (fun e : y = x => q (fld_inj hn (by rw [← e]; exact h) hx))]
      exact .cons h r (FRel.put hn t hx rw')
theorem DRel.growL (g : GrowL B B' H H') : ∀ {kvs : List (W × W)} {ks : List (Key × V)}, DRel K B H kvs ks → DRel K B' H' kvs ks
  | _, _, .nil => .nil
  | _, _, .cons h r t => .cons h (Rep.growL g _ _ r) (DRel.growL g t)
theorem DRel.grow (g : Grow B B' H H') {kvs : List (W × W)} {ks : List (Key × V)} (h : DRel K B H kvs ks) : DRel K B' H' kvs ks := DRel.growL g.toL h
theorem ObR.some {o : Ob} {a : Addr} (h : ObR N K B H o a) : ∃ u, H a = some u ∧ (∀ xs, u ≠ .tup xs) ∧ ((∀ kvs, o ≠ .dcl kvs) → ∀ ob z, u ≠ .frz ob z) := by
  cases o with
  | lst ws => obtain ⟨vs, h1, _⟩ := h; exact ⟨_, h1, (fun _ z => nomatch z), (fun _ _ _ z => nomatch z)⟩
  | dct kvs => obtain ⟨ks, h1, _⟩ := h; exact ⟨_, h1, (fun _ z => nomatch z), (fun _ _ _ z => nomatch z)⟩
  | dcl kvs => obtain ⟨o, ks, h1, _⟩ := h; exact ⟨_, h1, (fun _ z => nomatch z), (fun q => absurd rfl (q _))⟩
  | ins c fs => obtain ⟨x, dx, gs, _, h1, _⟩ := h; exact ⟨_, h1, (fun _ z => nomatch z), (fun _ _ _ z => nomatch z)⟩
/-- what an object's description leans on -/
theorem ObR.stayL {o : Ob} {a : Addr} (h : ObR N K B H o a) (g : GrowL B B' H H') (e : H' a = H a) : ObR N K B' H' o a := by
  cases o with
  | lst ws => obtain ⟨vs, h1, h2⟩ := h; exact ⟨vs, e.trans h1, Reps.growL g _ _ h2⟩
  | dct kvs => obtain ⟨ks, h1, h2⟩ := h; exact ⟨ks, e.trans h1, h2.growL g⟩
  | dcl kvs => obtain ⟨o, ks, h1, h2⟩ := h; exact ⟨o, ks, e.trans h1, h2.growL g⟩
  | ins c fs => obtain ⟨x, dx, gs, h0, h1, h2⟩ := h; exact ⟨x, dx, gs, h0, e.trans h1, h2.growL g⟩
theorem ObR.stay {o : Ob} {a : Addr} (h : ObR N K B H o a) (g : Grow B B' H H') (e : H' a = H a) : ObR N K B' H' o a := h.stayL g.toL e
theorem RelM.at_some (r : RelM N K B m H) {k : Nat} {a : Addr} (h : B[k]? = some a) : ∃ o, m[k]? = some o ∧ ObR N K B H o a := by
  obtain ⟨hk, _⟩ := List.getElem?_eq_some_iff.mp h
  rw [r.len] at hk
  obtain ⟨a', h1, h2⟩ := r.ob k m[k] (List.getElem?_eq_getElem hk)
  rw [h] at h1
  cases h1
  exact ⟨_, List.getElem?_eq_getElem hk, h2⟩
theorem RelM.fresh (r : RelM N K B m H) {p : Addr} (hp : H p = none) : p ∉ B := fun hm => by
  obtain ⟨k, hk⟩ := List.mem_iff_getElem?.mp hm
  obtain ⟨o, _, q⟩ := r.at_some hk
  obtain ⟨u, e, _⟩ := q.some
  rw [hp] at e
  cases e
theorem grow_upd {a : Addr} {u : HO} (h1 : ∀ xs, H a ≠ some (.tup xs)) (h2 : ∀ o z, H a ≠ some (.frz o z)) : Grow B B H (upd H a u) :=
  ⟨fun _ _ h => h, fun b xs h => (upd_ne fun e => h1 xs (by rw [← e]; exact h)).trans h, fun b o z h => (upd_ne fun e => h2 o z (by rw [← e]; exact h)).trans h⟩
theorem grow_none {a : Addr} {u : HO} (h : H a = none) : Grow B B H (upd H a u) := grow_upd (fun xs e => by rw [h] at e; cases e) fun o z e => by rw [h] at e; cases e
theorem grow_snoc (B : List Addr) (p : Addr) (H : Hp) : Grow B (B ++ [p]) H H :=
  ⟨fun k a h => by rw [List.getElem?_append_left (List.getElem?_eq_some_iff.mp h).1]; exact h, fun _ _ h => h, fun _ _ _ h => h⟩
/-- another heap: the objects' own places stay -/
theorem RelM.stay (r : RelM N K B m H) (g : Grow B B H H') (e : ∀ (k : Nat) (a : Addr), B[k]? = some a → H' a = H a) : RelM N K B m H' :=
  ⟨r.len, r.nd, fun k o h => by
    obtain ⟨a, h1, h2⟩ := r.ob k o h
    exact ⟨a, h1, h2.stay g (e k a h1)⟩⟩
theorem RelM.side (r : RelM N K B m H) {p : Addr} {u : HO} (hp : H p = none) : RelM N K B m (upd H p u) :=
  r.stay (grow_none hp) fun k a h => upd_ne fun e => r.fresh hp (e ▸ List.mem_of_getElem? h)
/-- a new object -/
theorem RelM.new (r : RelM N K B m H) {p : Addr} {u : HO} {o : Ob} (hp : H p = none) (q : ObR N K (B ++ [p]) (upd H p u) o p) : RelM N K (B ++ [p]) (m ++ [o]) (upd H p u) := by
  have np := r.fresh hp
  have g : Grow B (B ++ [p]) H (upd H p u) := (grow_none hp).trans (grow_snoc B p _)
  refine ⟨by simp [r.len], ?_, fun k ob h => ?_⟩
  · rw [List.nodup_append]
    refine ⟨r.nd, by simp, fun a ha b hb => ?_⟩
    have e : b = p := by simpa using hb
    subst e
    exact fun z => np (z ▸ ha)
  · by_cases hk : k < m.length
    · rw [List.getElem?_append_left hk] at h
      obtain ⟨a, h1, h2⟩ := r.ob k ob h
      exact ⟨a, g.pre k a h1, h2.stay g (upd_ne fun e => np (e ▸ List.mem_of_getElem? h1))⟩
    · have hk' : k = m.length := by
        have := (List.getElem?_eq_some_iff.mp h).1
        simp at this
        omega
      subst hk'
      rw [List.getElem?_append_right (Nat.le_refl _)] at h
      simp at h
      subst h
      refine ⟨p, ?_, q⟩
      rw [List.getElem?_append_right (by rw [r.len]; exact Nat.le_refl _), r.len]
      simp
theorem grow_new {p : Addr} {u : HO} (hp : H p = none) : Grow B (B ++ [p]) H (upd H p u) := (grow_none hp).trans (grow_snoc B p _)
/-- the object at a place is another one -/
theorem RelM.putL (r : RelM N K B m H) {k : Nat} {a : Addr} {u : HO} {o : Ob} (hk : B[k]? = some a) (g : GrowL B B H (upd H a u)) (q : ObR N K B (upd H a u) o a) : RelM N K B (m.set k o) (upd H a u) := by
  obtain ⟨ob, h1, h2⟩ := r.at_some hk
  refine ⟨by simp [r.len], r.nd, fun j oj h => ?_⟩
  by_cases hj : j = k
  · subst hj
    have hlt : j < m.length := (List.getElem?_eq_some_iff.mp h1).1
    rw [List.getElem?_set_self hlt] at h
    cases h
    exact ⟨a, hk, q⟩
  · rw [List.getElem?_set_ne (Ne.symm hj)] at h
    obtain ⟨b, h3, h4⟩ := r.ob j oj h
    have nb : b ≠ a := fun z => hj (by
      subst z
      obtain ⟨x1, e1⟩ := List.getElem?_eq_some_iff.mp h3
      obtain ⟨x2, e2⟩ := List.getElem?_eq_some_iff.mp hk
      exact (List.getElem_inj r.nd).mp (e1.trans e2.symm))
    exact ⟨b, h3, h4.stayL g (upd_ne nb)⟩
theorem RelM.put (r : RelM N K B m H) {k : Nat} {a : Addr} {u : HO} {o : Ob} (hk : B[k]? = some a) (hn : ∀ kvs, m[k]? ≠ some (.dcl kvs)) (q : ObR N K B (upd H a u) o a) : RelM N K B (m.set k o) (upd H a u) ∧ Grow B B H (upd H a u) := by
  obtain ⟨ob, h1, h2⟩ := r.at_some hk
  obtain ⟨z, e, t1, t2⟩ := h2.some
  have t3 := t2 fun kvs e => hn kvs (by rw [h1, e])
  have g : Grow B B H (upd H a u) := grow_upd (fun xs e' => by rw [e] at e'; cases e'; exact t1 _ rfl) fun o z' e' => by rw [e] at e'; cases e'; exact t3 _ _ rfl
  exact ⟨r.putL hk g.toL q, g⟩
/-- a dict is locked, and behind the walk no more -/
theorem RelM.lock (r : RelM N K B m H) {k : Nat} {a : Addr} {kvs : List (W × W)} {ks : List (Key × V)} {od : Obj} (hk : B[k]? = some a) (h : H a = some (.dK ks)) (d : DRel K B H kvs ks) : RelM N K B (m.set k (.dcl kvs)) (upd H a (.frz od (.dK ks))) ∧ Grow B B H (upd H a (.frz od (.dK ks))) := by
  have g : Grow B B H (upd H a (.frz od (.dK ks))) := grow_upd (fun xs e => by rw [h] at e; cases e) fun o z e => by rw [h] at e; cases e
  exact ⟨r.putL hk g.toL ⟨od, ks, upd_same, d.grow g⟩, g⟩
theorem RelM.unlock (r : RelM N K B m H) {k : Nat} {a : Addr} {kvs : List (W × W)} {ks : List (Key × V)} {od : Obj} (hk : B[k]? = some a) (h : H a = some (.frz od (.dK ks))) (d : DRel K B H kvs ks) : RelM N K B (m.set k (.dct kvs)) (upd H a (.dK ks)) ∧ GrowL B B H (upd H a (.dK ks)) := by
  have g : GrowL B B H (upd H a (.dK ks)) := ⟨fun _ _ h => h, fun b xs e => (upd_ne fun z => by rw [z, h] at e; cases e).trans e, fun b o u hu e => (upd_ne fun z => by
    rw [z, h] at e
    cases e
    exact hu _ rfl).trans e⟩
  exact ⟨r.putL hk g ⟨ks, upd_same, d.growL g⟩, g⟩
theorem RelE.grow {e : Env} {σ : L2.St} (r : RelE K B H e σ) (g : Grow B B' H H') : RelE K B' H' e σ :=
  ⟨r.len, fun i w h => by
    obtain ⟨v, h1, h2⟩ := r.get i w h
    exact ⟨v, h1, Rep.grow g _ _ h2⟩⟩
theorem RelE.growL {e : Env} {σ : L2.St} (r : RelE K B H e σ) (g : GrowL B B' H H') : RelE K B' H' e σ :=
  ⟨r.len, fun i w h => by
    obtain ⟨v, h1, h2⟩ := r.get i w h
    exact ⟨v, h1, Rep.growL g _ _ h2⟩⟩
theorem RelE.set {e : Env} {σ : L2.St} (r : RelE K B H e σ) {w : W} {v : V} (i : Nat) (q : Rep K B H w v) : RelE K B H (e.set i (some w)) (σ.set i (some v)) :=
  ⟨by simp [r.len], fun j u h => by
    by_cases hj : j = i
    · subst hj
      by_cases hl : j < e.length
      · rw [List.getElem?_set_self hl] at h
        cases h
        exact ⟨v, by rw [List.getElem?_set_self (by rw [← r.len]; exact hl)], q⟩
      · rw [List.getElem?_eq_none (by simpa using hl)] at h
        cases h
    · rw [List.getElem?_set_ne (Ne.symm hj)] at h
      obtain ⟨v', h1, h2⟩ := r.get j u h
      exact ⟨v', by rw [List.getElem?_set_ne (Ne.symm hj)]; exact h1, h2⟩⟩
theorem RelE.set_none {e : Env} {σ : L2.St} (r : RelE K B H e σ) (i : Nat) : RelE K B H (e.set i none) (σ.set i none) :=
  ⟨by simp [r.len], fun j u h => by
    by_cases hj : j = i
    · subst hj
      by_cases hl : j < e.length
      · rw [List.getElem?_set_self hl] at h
        cases h
      · rw [List.getElem?_eq_none (by simpa using hl)] at h
        cases h
    · rw [List.getElem?_set_ne (Ne.symm hj)] at h
      obtain ⟨v', h1, h2⟩ := r.get j u h
      exact ⟨v', by rw [List.getElem?_set_ne (Ne.symm hj)]; exact h1, h2⟩⟩
theorem RelE.wipe {e : Env} {σ : L2.St} (r : RelE K B H e σ) : ∀ vs : List Nat, RelE K B H (wipeE e vs) (L2.wipe σ vs)
  | [] => r
  | v :: vs => (RelE.wipe r vs).set_none v
end

/-! ### readings -/
section
variable (N : Nms) (K : PySem.W.Frag) (E : XK)
/-- an exception as it lies -/
def XR (c : Nat) (v : V) (d : Addr) (H : Hp) (cls : Value) : Prop := ∃ x f, N.exc[c]? = some (x, f) ∧ cls = .ref (He.ga K x) ∧ H d = some (.xd [(f, v)])
def PostX (B : List Addr) (H : Hp) (c : Nat) (x : W) (m : Mem) : Prop :=
  ∀ B' H' d v cls, Grow B B' H H' → RelM N K B' m H' → XR N K c v d H' cls → Rep K B' H' x v → E cls (some d) H'
def Post {A C : Type} (RR : List Addr → Hp → A → C → Prop) (B : List Addr) (H : Hp) (r : R A) (Q : C → Hp → Prop) : Prop := match r with
  | .ok a m => ∀ B' H' c, Grow B B' H H' → RelM N K B' m H' → RR B' H' a c → Q c H'
  | .rse c x m => PostX N K E B H c x m
  | .bad => False
abbrev RW : List Addr → Hp → W → V → Prop := fun B H w v => Rep K B H w v
abbrev RWs : List Addr → Hp → List W → List V → Prop := fun B H w v => Reps K B H w v
abbrev RB : List Addr → Hp → Bool → Bool → Prop := fun _ _ a b => a = b
/-- the reading of a tree f -/
def Den {A C : Type} (RR : List Addr → Hp → A → C → Prop) (f : Env → Mem → R A) (σ : L2.St) (H : Hp) (Q : C → Hp → Prop) : Prop :=
  ∃ B m e, RelM N K B m H ∧ RelE K B H e σ ∧ Post N K E RR B H (f e m) Q
def PostS (B : List Addr) (H : Hp) (r : RS) (D : Ends) : Prop := match r with
  | .next e m => ∀ B' H' σ, Grow B B' H H' → RelM N K B' m H' → RelE K B' H' e σ → D.nx σ H'
  | .ret w m => ∀ B' H' v, Grow B B' H H' → RelM N K B' m H' → Rep K B' H' w v → D.rt v H'
  | .rse c x _ m => PostX N K E B H c x m
  | .bad => False
def DenS (f : Env → Mem → RS) : TS := fun D σ H => ∃ B m e, RelM N K B m H ∧ RelE K B H e σ ∧ PostS N K E B H (f e m) D
end
section
variable {N : Nms} {K : PySem.W.Frag} {E : XK} {A C A' C' : Type} {RR : List Addr → Hp → A → C → Prop} {RR' : List Addr → Hp → A' → C' → Prop} {B B1 : List Addr} {H H1 : Hp}
theorem PostX.mono {c : Nat} {x : W} {m : Mem} (h : PostX N K E B H c x m) (g : Grow B B1 H H1) : PostX N K E B1 H1 c x m := fun B' H' d v cls g' => h B' H' d v cls (g.trans g')
theorem Post.mono {r : R A} {Q : C → Hp → Prop} (h : Post N K E RR B H r Q) (g : Grow B B1 H H1) : Post N K E RR B1 H1 r Q := by
  cases r with
  | ok a m => exact fun B' H' c g' => h B' H' c (g.trans g')
  | rse c x m => exact PostX.mono h g
  | bad => exact h
theorem Post.imp {r : R A} {Q Q' : C → Hp → Prop} (h : Post N K E RR B H r Q) (hq : ∀ c H, Q c H → Q' c H) : Post N K E RR B H r Q' := by
  cases r with
  | ok a m => exact fun B' H' c g rm rr => hq _ _ (h B' H' c g rm rr)
  | rse c x m => exact h
  | bad => exact h
theorem PostS.mono {r : RS} {D : Ends} (h : PostS N K E B H r D) (g : Grow B B1 H H1) : PostS N K E B1 H1 r D := by
  cases r with
  | next e m => exact fun B' H' c g' => h B' H' c (g.trans g')
  | ret w m => exact fun B' H' c g' => h B' H' c (g.trans g')
  | rse c x e m => exact PostX.mono h g
  | bad => exact h
/-- what stands between two trees in a row -/
theorem Post.bind {r : R A} {f : A → Mem → R A'} {Q : C' → Hp → Prop} (h : Post N K E RR' B H (r.bind f) Q) :
    Post N K E RR B H r fun c H1 => ∃ B1 m1 a, Grow B B1 H H1 ∧ RelM N K B1 m1 H1 ∧ RR B1 H1 a c ∧ Post N K E RR' B1 H1 (f a m1) Q := by
  cases r with
  | ok a m => exact fun B' H' c g rm rr => ⟨B', m, a, g, rm, rr, Post.mono (r := f a m) h g⟩
  | rse c x m => exact h
  | bad => exact h
theorem PostS.ofR {r : R A} {f : A → Mem → RS} {D : Ends} {e : Env} (h : PostS N K E B H (RS.ofR e r f) D) :
    Post N K E RR B H r fun c H1 => ∃ B1 m1 a, Grow B B1 H H1 ∧ RelM N K B1 m1 H1 ∧ RR B1 H1 a c ∧ PostS N K E B1 H1 (f a m1) D := by
  cases r with
  | ok a m => exact fun B' H' c g rm rr => ⟨B', m, a, g, rm, rr, PostS.mono (r := f a m) h g⟩
  | rse c x m => exact h
  | bad => exact h
/-- an ending at hand -/
theorem Post.here {a : A} {c : C} {m : Mem} {Q : C → Hp → Prop} (h : Post N K E RR B H (.ok a m) Q) (rm : RelM N K B m H) (rr : RR B H a c) : Q c H := h B H c (Grow.refl _ _) rm rr
theorem Post.ofO {o : Option A} {m : Mem} {Q : C → Hp → Prop} (h : Post N K E RR B H (ofO m o) Q) : ∃ a, o = some a ∧ Post N K E RR B H (.ok a m) Q := by
  cases o with
  | none => exact h.elim
  | some a => exact ⟨a, rfl, h⟩
end
section
variable {X : Cx} {e : Expr}
theorem PE_imp {t t' : TE} (h : PE X e t) (k : ∀ σ H Q, t' σ H Q → t σ H Q) : PE X e t' := ⟨fun pins s σ H Q I q => h.run pins s σ H Q I (k σ H Q q)⟩
theorem PT_imp {t t' : TT} (h : PT X e t) (k : ∀ σ H Q, t' σ H Q → t σ H Q) : PT X e t' := ⟨fun pins s σ H Q I q => h.run pins s σ H Q I (k σ H Q q)⟩
theorem PW_imp {t t' : TT} (h : PW X e t) (k : ∀ σ H Q, t' σ H Q → t σ H Q) : PW X e t' := ⟨fun wh pins s σ H Q I q => h.run wh pins s σ H Q I (k σ H Q q)⟩
theorem PA_imp {es : List Expr} {t t' : TA} (h : PA X es t) (k : ∀ σ H Q, t' σ H Q → t σ H Q) : PA X es t' := ⟨fun pos pins s σ H Q I q => h.run pos pins s σ H Q I (k σ H Q q)⟩
theorem PS_imp {st : Stmt} {t t' : TS} (h : PS X st t) (k : ∀ D σ H, t' D σ H → t D σ H) : PS X st t' := ⟨fun pins s σ H D I q => h.run pins s σ H D I (k D σ H q)⟩
theorem PSs_imp {st : List Stmt} {t t' : TS} (h : PSs X st t) (k : ∀ D σ H, t' D σ H → t D σ H) : PSs X st t' := ⟨fun pins s σ H D I q => h.run pins s σ H D I (k D σ H q)⟩
theorem PG_imp {tg : Expr} {t t' : TG} (h : PG X tg t) (k : ∀ v σ H Q, t' v σ H Q → t v σ H Q) : PG X tg t' := ⟨fun pins s σ H v u Q I r q => h.run pins s σ H v u Q I r (k v σ H Q q)⟩
theorem PI_imp {tg it : Expr} {t t' : TI} (h : PI X tg it t) (k : ∀ σ H R, t' σ H R → t σ H R) : PI X tg it t' := ⟨fun pins s σ H R I q => h.run pins s σ H R I (k σ H R q)⟩
end
end Mi
end

section
set_option Elab.async false
set_option linter.all false
set_option maxRecDepth 100000
set_option maxHeartbeats 4000000
/-! MiC: the operators by values. -/
namespace Mi
open PySem PySem.Spec PyProof.Rows L2

theorem SL_eq : SL = sizeLine := sizeLine_eq.symm
theorem sx_length (x : Tx) : (sx x).length = x.length := by simp [sx, Str.length]
theorem sx_append (x y : Tx) : sx x ++ sx y = sx (x ++ y) := PySem.Str.ext' (by rw [PySem.Str.cps_append]; simp [sx])
theorem char_inj {c d : Char} (h : c.toNat = d.toNat) : c = d := Char.ext (UInt32.toNat_inj.mp h)
theorem map_char_inj : ∀ {x y : List Char}, x.map Char.toNat = y.map Char.toNat → x = y
  | [], [], _ => rfl
  | [], _ :: _, h => by simp at h
  | _ :: _, [], h => by simp at h
  | c :: x, d :: y, h => by
    simp only [List.map_cons, List.cons.injEq] at h
    rw [char_inj h.1, map_char_inj h.2]
theorem sx_inj {x y : Tx} (h : sx x = sx y) : x = y := map_char_inj (by have := congrArg (fun s : Str => s.cps.toList) h; simpa [sx] using this)
theorem sx_cps (x : Tx) : (sx x).cps.toList = x.map Char.toNat := by simp [sx]
theorem strOk_sx (x : Tx) : PyData.strOk (sx x) = true := by
  unfold PyData.strOk sx
  simp only [List.all_toArray, List.all_map, List.all_eq_true]
  intro c _
  have h := c.valid
  have e : c.toNat = c.val.toNat := rfl
  simp only [UInt32.isValidChar, Nat.isValidChar] at h
  show decide (c.toNat < 0x110000) = true
  rw [decide_eq_true_eq, e]
  omega

section
variable (N : Nms) (K : PySem.W.Frag) (E : XK)
/-- a two-place operation on values -/
def R2W (f : W → W → Mem → R W) : R2 := fun x y H Q => ∃ B m w u, RelM N K B m H ∧ Rep K B H w x ∧ Rep K B H u y ∧ Post N K E (RW K) B H (f w u m) Q
def R1W (f : W → Mem → R W) : V → Hp → VK → Prop := fun x H Q => ∃ B m w, RelM N K B m H ∧ Rep K B H w x ∧ Post N K E (RW K) B H (f w m) Q
def RLW (f : List W → Mem → R W) : List V → Hp → VK → Prop := fun xs H Q => ∃ B m ws, RelM N K B m H ∧ Reps K B H ws xs ∧ Post N K E (RW K) B H (f ws m) Q
def RMW (f : W → List W → Mem → R W) : V → List V → Hp → VK → Prop := fun x xs H Q => ∃ B m w ws, RelM N K B m H ∧ Rep K B H w x ∧ Reps K B H ws xs ∧ Post N K E (RW K) B H (f w ws m) Q
end

section
variable {N : Nms} {K : PySem.W.Frag} {E : XK} {B B' : List Addr} {H H' : Hp} {m : Mem} {Q : VK}
/-! ### endings -/
theorem end_w {w : W} {v : V} (h : Post N K E (RW K) B H (.ok w m) Q) (rm : RelM N K B m H) (r : Rep K B H w v) : Q v H := h B H v (Grow.refl _ _) rm r
theorem end_new {o : Ob} {u : HO} (h : Post N K E (RW K) B H (alloc o m) Q) (rm : RelM N K B m H) {p : Addr} (hp : H p = none) (q : ObR N K (B ++ [p]) (upd H p u) o p) : Q (.ref p) (upd H p u) := by
  refine h (B ++ [p]) (upd H p u) (.ref p) (grow_new hp) (rm.new hp q) (.obj ?_)
  rw [List.getElem?_append_right (by rw [rm.len]; exact Nat.le_refl _), rm.len]
  simp
theorem end_lst {ws : List W} {vs : List V} (h : Post N K E (RW K) B H (alloc (.lst ws) m) Q) (rm : RelM N K B m H) (r : Reps K B H ws vs) {p : Addr} (hp : H p = none) : Q (.ref p) (upd H p (.lst vs)) :=
  end_new h rm hp ⟨vs, upd_same, Reps.grow (grow_new hp) _ _ r⟩
theorem end_tup {ws : List W} {vs : List V} (h : Post N K E (RW K) B H (.ok (.tup ws) m) Q) (rm : RelM N K B m H) (r : Reps K B H ws vs) {p : Addr} (hp : H p = none) : Q (.ref p) (upd H p (.tup vs)) :=
  h B _ _ (grow_none hp) (rm.side hp) (.tup (SqT.of upd_same) (Reps.grow (grow_none hp) _ _ r))
theorem nlk {k : Nat} {ws : List W} (h : m[k]? = some (.lst ws)) : ∀ kvs, m[k]? ≠ some (.dcl kvs) := fun _ e => by rw [h] at e; cases e
theorem nld {k : Nat} {ws : List (W × W)} (h : m[k]? = some (.dct ws)) : ∀ kvs, m[k]? ≠ some (.dcl kvs) := fun _ e => by rw [h] at e; cases e
theorem end_set {k : Nat} {a : Addr} {w : W} {v : V} {o : Ob} {u : HO} (h : Post N K E (RW K) B H (.ok w (m.set k o)) Q) (rm : RelM N K B m H) (hm0 : ∀ kvs, m[k]? ≠ some (.dcl kvs)) (hk : B[k]? = some a) (q : ObR N K B (upd H a u) o a) (r : ∀ H', Grow B B H H' → Rep K B H' w v) : Q v (upd H a u) := by
  obtain ⟨r1, g⟩ := rm.put (u := u) hk hm0 q
  exact h B _ v g r1 (r _ g)
theorem RelM.lst (rm : RelM N K B m H) {k : Nat} {a : Addr} {ws : List W} (hk : B[k]? = some a) (hm : m[k]? = some (.lst ws)) : ∃ vs, H a = some (.lst vs) ∧ Reps K B H ws vs := by
  obtain ⟨a', h1, h2⟩ := rm.ob k _ hm
  rw [hk] at h1
  cases h1
  exact h2
/-- a value that is a list, in the heap -/
theorem isLst_sq (rm : RelM N K B m H) {w : W} {x : V} {ws : List W} (r : Rep K B H w x) (h : isLst m w = some ws) : ∃ a vs, x = .ref a ∧ SqL K H a vs ∧ Reps K B H ws vs := by
  cases r with
  | frz hf =>
    cases h
    exact ⟨_, _, rfl, hf.sq, Reps.ints _⟩
  | @obj k a hk =>
    simp only [isLst] at h
    split at h
    · rename_i us e
      cases h
      obtain ⟨vs, h1, h2⟩ := rm.lst hk e
      exact ⟨a, vs, rfl, SqL.of h1, h2⟩
    · cases h
  | _ => cases h
theorem seqW_sq (rm : RelM N K B m H) {w : W} {x : V} {ws : List W} (r : Rep K B H w x) (h : seqW m w = some ws) : ∃ a vs, x = .ref a ∧ ((SqL K H a vs ∧ isLst m w = some ws) ∨ (SqT K H a vs ∧ w = .tup ws)) ∧ Reps K B H ws vs := by
  cases r with
  | tup h1 h2 =>
    cases h
    exact ⟨_, _, rfl, .inr ⟨h1, rfl⟩, h2⟩
  | frz hf =>
    cases h
    exact ⟨_, _, rfl, .inl ⟨hf.sq, rfl⟩, Reps.ints _⟩
  | @obj k a hk =>
    have h' : isLst m (.obj k) = some ws := h
    obtain ⟨a', vs, e, h1, h2⟩ := isLst_sq rm (.obj hk) h'
    exact ⟨a', vs, e, .inl ⟨h1, h'⟩, h2⟩
  | _ => cases h

/-! ### arithmetic -/
variable {X : Cx}
/-- two lists, either of them known to be some -/
def rCatF (K : PySem.W.Frag) : R2 := fun x y H Q => ∃ l b xs zs, x = .ref l ∧ y = .ref b ∧ SqL K H l xs ∧ SqL K H b zs ∧ xs.length + zs.length ≤ sizeLine ∧ ∀ p, H p = none → Q (.ref p) (upd H p (.lst (xs ++ zs)))
theorem op_catF : OpR X (binaryOp .Add) (rCatF X.K) := by
  intro pins s σ H x y v u Q I rx ry h
  obtain ⟨l, b, xs, zs, rfl, rfl, hH, hB, hz, q⟩ := h
  cases rx
  cases ry
  obtain ⟨its, r, pl, _⟩ := I.list hH
  obtain ⟨its2, r2, pl2, _⟩ := I.list hB
  have z1 := r.length
  have z2 := r2.length
  obtain ⟨⟨c1, d1, t1, sl1⟩, n1, e1, hc1, hd1, ht1⟩ := pl
  obtain ⟨⟨c2, d2, t2, sl2⟩, n2, e2, hc2, hd2, ht2⟩ := pl2
  simp only at hc1 hd1 ht1 hc2 hd2 ht2
  subst hc1 hd1 ht1 hc2 hd2 ht2
  have e : its.toArray ++ its2.toArray = (its ++ its2).toArray := by simp
  refine concat_meets ⟨_, e1, rfl⟩ ⟨_, e2, rfl⟩ noFill_list_add seq_list_add PySem.F.slot_list_add PySem.F.entry_list_add (PySem.F.args_list_add_2 _ _) (list_addW l b its.toArray its2.toArray n1 n2 none none sl1 sl2 (by simp only [List.size_toArray]; omega)) ⟨e1, e2, ?_⟩
  rw [e]
  exact ⟨.ref _, _, I.lnew (t' := s.toks) (r.append r2) (by rw [List.length_append]; omega), rfl, q _ I.fresh⟩

theorem op_addW : OpR X (binaryOp .Add) (R2W N X.K E (binop .add)) := by
  rintro pins s σ H x y v u Q I rx ry ⟨B, m, w, z, rm, rw', rz, h⟩
  have lists : ∀ {xs ys : List W}, isLst m w = some xs → isLst m z = some ys → Post N X.K E (RW X.K) B H (if xs.length + ys.length ≤ SL then alloc (.lst (xs ++ ys)) m else .bad) Q → wpAny (model X.prog X.w) X.A (binaryOp .Add v u) (EP X pins σ Q) X.xe s := by
    intro xs ys e1 e2 hq
    obtain ⟨a, vs, ea, h1, r1⟩ := isLst_sq rm rw' e1
    obtain ⟨b, zs, eb, h2, r2⟩ := isLst_sq rm rz e2
    split at hq
    · rename_i hz
      rw [SL_eq, ← r1.length, ← r2.length] at hz
      exact op_catF pins s σ H x y v u Q I rx ry ⟨a, b, vs, zs, ea, eb, h1, h2, hz, fun p hp => end_lst hq rm (r1.append r2) hp⟩
    · exact hq.elim
  cases rw' with
  | int i =>
    cases rz with
    | int j => exact op_add pins s σ H _ _ v u Q I rx ry ⟨i, j, rfl, rfl, end_w h rm (.int _)⟩
    | _ => exact False.elim h
  | str a =>
    cases rz with
    | str b =>
      simp only [binop] at h
      split at h
      · rename_i hz
        refine op_add_str pins s σ H _ _ v u Q I rx ry ⟨sx a, sx b, rfl, rfl, ?_, ?_⟩
        · rw [sx_length, sx_length, ← SL_eq]; exact hz
        · rw [sx_append]; exact end_w h rm (.str _)
      · exact h.elim
    | _ => exact False.elim h
  | @tup ws a vs h1 h2 =>
    cases rz with
    | @tup us b zs k1 k2 =>
      simp only [binop] at h
      split at h
      · rename_i hz
        have e1 := h2.length
        have e2 := k2.length
        refine op_catT pins s σ H _ _ v u Q I rx ry ⟨a, b, vs, zs, rfl, rfl, h1, k1, ?_, ?_, ?_, ?_⟩
        · intro e
          subst e
          have : ws = [] := List.length_eq_zero_iff.mp (by simpa using e1.symm)
          exact hz.1 this
        · rw [e1, e2, ← SL_eq]; exact hz.2
        · intro e
          subst e
          have : us = [] := List.length_eq_zero_iff.mp (by simpa using e2.symm)
          subst this
          rw [List.append_nil] at h
          exact end_w h rm (.tup h1 h2)
        · intro _ p hp
          exact end_tup h rm (h2.append k2) hp
      · exact h.elim
    | _ => exact False.elim h
  | @obj k a hk =>
    simp only [binop] at h
    split at h
    · exact lists (by assumption) (by assumption) h
    · exact h.elim
  | @frz ns a hk =>
    simp only [binop] at h
    split at h
    · exact lists (by assumption) (by assumption) h
    · exact h.elim
  | _ => first | exact False.elim h | (cases rz <;> exact False.elim h)
theorem op_subW : OpR X (binaryOp .Sub) (R2W N X.K E (binop .sub)) := by
  rintro pins s σ H x y v u Q I rx ry ⟨B, m, w, z, rm, rw', rz, h⟩
  cases rw' with
  | int i =>
    cases rz with
    | int j => exact op_sub pins s σ H _ _ v u Q I rx ry ⟨i, j, rfl, rfl, end_w h rm (.int _)⟩
    | _ => exact False.elim h
  | _ => exact False.elim h
theorem op_mulWW : OpR X (binaryOp .Mult) (R2W N X.K E (binop .mul)) := by
  rintro pins s σ H x y v u Q I rx ry ⟨B, m, w, z, rm, rw', rz, h⟩
  cases rw' with
  | int i =>
    cases rz with
    | int j =>
      simp only [binop] at h
      split at h
      · rename_i hc
        exact op_mul pins s σ H _ _ v u Q I rx ry ⟨i, j, rfl, rfl, hc, end_w h rm (.int _)⟩
      · exact h.elim
    | _ => exact False.elim h
  | @obj k a hk =>
    cases rz with
    | int j =>
      simp only [binop] at h
      split at h
      · rename_i ws e
        split at h
        · rename_i hc
          obtain ⟨vs, h1, h2⟩ := rm.lst hk e
          refine op_rep pins s σ H _ _ v u Q I rx ry ⟨a, j, vs, rfl, rfl, h1, hc.1, hc.2.1, ?_, fun p hp => end_lst h rm (h2.rep _) hp⟩
          rw [h2.length, ← SL_eq]
          exact hc.2.2
        · exact h.elim
      · exact h.elim
    | _ => exact False.elim h
  | _ => exact False.elim h
theorem op_fdivWW : OpR X (binaryOp .FloorDiv) (R2W N X.K E (binop .fdiv)) := by
  rintro pins s σ H x y v u Q I rx ry ⟨B, m, w, z, rm, rw', rz, h⟩
  cases rw' with
  | int i =>
    cases rz with
    | int j =>
      simp only [binop] at h
      split at h
      · rename_i hc
        exact op_fdivW pins s σ H _ _ v u Q I rx ry ⟨i, j, rfl, rfl, wide_div (b := 64) hc.1 (by omega) (by decide) (by decide), end_w h rm (.int _)⟩
      · exact h.elim
    | _ => exact False.elim h
  | _ => exact False.elim h
theorem op_modWW : OpR X (binaryOp .Mod) (R2W N X.K E (binop .mod)) := by
  rintro pins s σ H x y v u Q I rx ry ⟨B, m, w, z, rm, rw', rz, h⟩
  cases rw' with
  | int i =>
    cases rz with
    | int j =>
      simp only [binop] at h
      split at h
      · rename_i hc
        exact op_mod pins s σ H _ _ v u Q I rx ry ⟨i, j, rfl, rfl, hc, end_w h rm (.int _)⟩
      · exact h.elim
    | _ => exact False.elim h
  | _ => exact False.elim h
theorem op_powWW : OpR X (binaryOp .Pow) (R2W N X.K E (binop .pow)) := by
  rintro pins s σ H x y v u Q I rx ry ⟨B, m, w, z, rm, rw', rz, h⟩
  cases rw' with
  | int i =>
    cases rz with
    | int j =>
      simp only [binop] at h
      split at h
      · rename_i hc
        exact op_pow pins s σ H _ _ v u Q I rx ry ⟨i, j, rfl, rfl, ⟨hc.1, by omega, hc.2.2⟩, end_w h rm (.int _)⟩
      · exact h.elim
    | _ => exact False.elim h
  | _ => exact False.elim h
def bopE : Bop → Operator
  | .add => .Add | .sub => .Sub | .mul => .Mult | .fdiv => .FloorDiv | .mod => .Mod | .pow => .Pow
theorem op_binW (o : Bop) : OpR X (binaryOp (bopE o)) (R2W N X.K E (binop o)) := by
  cases o with
  | add => exact op_addW
  | sub => exact op_subW
  | mul => exact op_mulWW
  | fdiv => exact op_fdivWW
  | mod => exact op_modWW
  | pow => exact op_powWW
theorem un_negW : UnR X (unaryOp .USub) (R1W N X.K E fun w m => negW m w) := by
  rintro pins s σ H x v Q I rx ⟨B, m, w, rm, rw', h⟩
  cases rw' with
  | int i => exact un_neg pins s σ H _ v Q I rx ⟨i, rfl, end_w h rm (.int _)⟩
  | _ => exact False.elim h

/-! ### data -/
theorem dp_ints : ∀ ns : List Int, DpAll K H (ns.map V.int) (ns.map PyData.int)
  | [] => .nil
  | n :: ns => .cons (.int n) (dp_ints ns)
mutual
theorem toD_dp (rm : RelM N K B m H) : ∀ (n : Nat) (w : W) (v : V) (d : PyData), Rep K B H w v → toD m n w = some d → Dp K H v d
  | n, .non, _, _, r, e => by cases r; simp only [toD, Option.some.injEq] at e; subst e; exact .non
  | n, .bl _, _, _, r, e => by cases r; simp only [toD, Option.some.injEq] at e; subst e; exact .bl _
  | n, .int _, _, _, r, e => by cases r; simp only [toD, Option.some.injEq] at e; subst e; exact .int _
  | n, .str _, _, _, r, e => by cases r; simp only [toD, Option.some.injEq] at e; subst e; exact .str _
  | 0, .tup _, _, _, _, e => by simp only [toD] at e; cases e
  | 0, .obj _, _, _, _, e => by simp only [toD] at e; cases e
  | 0, .frz _, _, _, _, e => by simp only [toD] at e; cases e
  | n + 1, .tup ws, _, d, r, e => by
    cases r with
    | tup h1 h2 =>
      simp only [toD, Option.map_eq_some_iff] at e
      obtain ⟨ds, e1, rfl⟩ := e
      exact .tup h1 (toDs_dp rm n ws _ ds h2 e1)
  | n + 1, .obj k, _, d, r, e => by
    cases r with
    | @obj _ a hk =>
      simp only [toD] at e
      split at e
      · rename_i ws em
        simp only [Option.map_eq_some_iff] at e
        obtain ⟨ds, e1, rfl⟩ := e
        obtain ⟨vs, h1, h2⟩ := rm.lst hk em
        exact .lst (SqL.of h1) (toDs_dp rm n ws _ ds h2 e1)
      · cases e
  | n + 1, .frz ns, _, d, r, e => by
    cases r with
    | frz hf =>
      simp only [toD, Option.some.injEq] at e
      subst e
      exact .lst hf.sq (dp_ints ns)
  | _, .exc _ _, _, _, r, _ => by cases r
theorem toDs_dp (rm : RelM N K B m H) : ∀ (n : Nat) (ws : List W) (vs : List V) (ds : List PyData), Reps K B H ws vs → optL (toD m n) ws = some ds → DpAll K H vs ds
  | _, [], _, _, r, e => by cases r; cases e; exact .nil
  | n, w :: ws, _, _, r, e => by
    cases r with
    | cons r1 r2 =>
      simp only [optL] at e
      split at e
      · rename_i d ds e1 e2
        cases e
        exact .cons (toD_dp rm n w _ d r1 e1) (toDs_dp rm n ws _ ds r2 e2)
      · cases e
end
end
end Mi
end

section
set_option Elab.async false
set_option linter.all false
set_option maxRecDepth 100000
set_option maxHeartbeats 4000000
/-! MiD: comparisons, subscripts, slices, built-in functions and methods, isinstance, truth, by values. -/
namespace Mi
open PySem PySem.Spec PyProof.Rows L2

section
mutual
theorem toD_shape (m : Mem) : ∀ (n : Nat) (w : W) (d : PyData), toD m n w = some d → d.canLay0 = true ∧ d.depth ≤ n
  | n, .non, d, e => by simp only [toD, Option.some.injEq] at e; subst e; exact ⟨by simp [PyData.canLay0], by simp [PyData.depth]⟩
  | n, .bl _, d, e => by simp only [toD, Option.some.injEq] at e; subst e; exact ⟨by simp [PyData.canLay0], by simp [PyData.depth]⟩
  | n, .int _, d, e => by simp only [toD, Option.some.injEq] at e; subst e; exact ⟨by simp [PyData.canLay0], by simp [PyData.depth]⟩
  | n, .str x, d, e => by simp only [toD, Option.some.injEq] at e; subst e; exact ⟨by simp [PyData.canLay0, strOk_sx], by simp [PyData.depth]⟩
  | 0, .tup _, _, e => by simp only [toD] at e; cases e
  | 0, .obj _, _, e => by simp only [toD] at e; cases e
  | 0, .frz _, _, e => by simp only [toD] at e; cases e
  | n + 1, .tup ws, d, e => by
    simp only [toD, Option.map_eq_some_iff] at e
    obtain ⟨ds, e1, rfl⟩ := e
    obtain ⟨h1, h2⟩ := toDs_shape m n ws ds e1
    exact ⟨by simp only [PyData.canLay0]; exact h1, by simp only [PyData.depth]; omega⟩
  | n + 1, .obj k, d, e => by
    simp only [toD] at e
    split at e
    · rename_i ws em
      simp only [Option.map_eq_some_iff] at e
      obtain ⟨ds, e1, rfl⟩ := e
      obtain ⟨h1, h2⟩ := toDs_shape m n ws ds e1
      exact ⟨by simp only [PyData.canLay0]; exact h1, by simp only [PyData.depth]; omega⟩
    · cases e
  | n + 1, .frz ns, d, e => by
    simp only [toD, Option.some.injEq] at e
    subst e
    have h : ∀ ns : List Int, PyData.canLayAll0 (ns.map PyData.int) = true ∧ PyData.depthAll (ns.map PyData.int) = 0 := by
      intro ns
      induction ns with
      | nil => exact ⟨by simp [PyData.canLayAll0], by simp [PyData.depthAll]⟩
      | cons i r ih => exact ⟨by simp [PyData.canLayAll0, PyData.canLay0, ih.1], by simp [PyData.depthAll, PyData.depth, ih.2]⟩
    exact ⟨by simp only [PyData.canLay0]; exact (h ns).1, by simp only [PyData.depth, (h ns).2]; omega⟩
  | n, .exc _ _, _, e => by simp only [toD] at e; cases e
theorem toDs_shape (m : Mem) : ∀ (n : Nat) (ws : List W) (ds : List PyData), optL (toD m n) ws = some ds → PyData.canLayAll0 ds = true ∧ PyData.depthAll ds ≤ n
  | _, [], _, e => by cases e; exact ⟨by simp [PyData.canLayAll0], by simp [PyData.depthAll]⟩
  | n, w :: ws, _, e => by
    simp only [optL] at e
    split at e
    · rename_i d ds e1 e2
      cases e
      obtain ⟨h1, h2⟩ := toD_shape m n w d e1
      obtain ⟨h3, h4⟩ := toDs_shape m n ws ds e2
      exact ⟨by simp only [PyData.canLayAll0, h1, h3, Bool.and_self], by simp only [PyData.depthAll]; omega⟩
    · cases e
end
theorem toD_shaped {m : Mem} {w : W} {d : PyData} (e : toD m DD w = some d) : SeqAt.shaped d = true := by
  obtain ⟨h1, h2⟩ := toD_shape m _ w d e
  show (d.canLay0 && decide (d.depth ≤ 64)) = true
  rw [Bool.and_eq_true]
  exact ⟨h1, decide_eq_true (by have : DD = 20 := rfl; omega)⟩
theorem toDs_lay {m : Mem} {ws : List W} {ds : List PyData} (e : optL (toD m DD) ws = some ds) : PyData.canLayAll0 ds = true := (toDs_shape m _ ws ds e).1
end

section
variable {N : Nms} {K : PySem.W.Frag} {E : XK} {B B' : List Addr} {H H' : Hp} {m : Mem} {Q : VK} {X : Cx}
/-! ### comparisons -/
theorem eqW_some {w u : W} {b : Bool} (h : eqW m w u = some b) : ∃ d e, toD m DD w = some d ∧ toD m DD u = some e ∧ b = PyData.eqv d e := by
  unfold eqW at h
  split at h
  · rename_i d e h1 h2
    cases h
    exact ⟨d, e, h1, h2, rfl⟩
  · cases h
theorem map_some {A C : Type} {o : Option A} {f : A → C} {c : C} (h : o.map f = some c) : ∃ a, o = some a ∧ c = f a := by
  obtain ⟨a, h1, h2⟩ := Option.map_eq_some_iff.mp h
  exact ⟨a, h1, h2.symm⟩
theorem op_eqWW (hu : X.A.units + 64 < cLine) : OpR X (compareOp .Eq) (R2W N X.K E (cmpop .eq)) := by
  rintro pins s σ H x y v u Q I rx ry ⟨B, m, w, z, rm, rw', rz, h⟩
  obtain ⟨r, e0, h⟩ := Post.ofO h
  obtain ⟨b, e, rfl⟩ := map_some e0
  obtain ⟨d, f, h1, h2, rfl⟩ := eqW_some e
  exact op_eqD hu pins s σ H x y v u Q I rx ry ⟨d, f, toD_dp rm _ _ _ _ rw' h1, toD_dp rm _ _ _ _ rz h2, toD_shaped h1, toD_shaped h2, end_w h rm (.bl _)⟩
theorem op_neWW (hu : X.A.units + 64 < cLine) : OpR X (compareOp .NotEq) (R2W N X.K E (cmpop .ne)) := by
  rintro pins s σ H x y v u Q I rx ry ⟨B, m, w, z, rm, rw', rz, h⟩
  obtain ⟨r, e0, h⟩ := Post.ofO h
  obtain ⟨b, e, rfl⟩ := map_some e0
  obtain ⟨d, f, h1, h2, rfl⟩ := eqW_some e
  exact op_neD hu pins s σ H x y v u Q I rx ry ⟨d, f, toD_dp rm _ _ _ _ rw' h1, toD_dp rm _ _ _ _ rz h2, toD_shaped h1, toD_shaped h2, end_w h rm (.bl _)⟩
theorem cmpI_some {p : Int → Int → Bool} {w u : W} {Q : VK} (h : Post N K E (RW K) B H (cmpI m p w u) Q) : ∃ i j, w = .int i ∧ u = .int j ∧ Post N K E (RW K) B H (.ok (.bl (p i j)) m) Q := by
  unfold cmpI at h
  split at h
  · exact ⟨_, _, rfl, rfl, h⟩
  · exact h.elim
theorem op_ltWW : OpR X (compareOp .Lt) (R2W N X.K E (cmpop .lt)) := by
  rintro pins s σ H x y v u Q I rx ry ⟨B, m, w, z, rm, rw', rz, h⟩
  obtain ⟨i, j, rfl, rfl, h⟩ := cmpI_some h
  cases rw'
  cases rz
  exact op_lt pins s σ H _ _ v u Q I rx ry ⟨i, j, rfl, rfl, end_w h rm (.bl _)⟩
theorem op_leWW : OpR X (compareOp .LtE) (R2W N X.K E (cmpop .le)) := by
  rintro pins s σ H x y v u Q I rx ry ⟨B, m, w, z, rm, rw', rz, h⟩
  obtain ⟨i, j, rfl, rfl, h⟩ := cmpI_some h
  cases rw'
  cases rz
  exact op_le pins s σ H _ _ v u Q I rx ry ⟨i, j, rfl, rfl, end_w h rm (.bl _)⟩
theorem op_gtWW : OpR X (compareOp .Gt) (R2W N X.K E (cmpop .gt)) := by
  rintro pins s σ H x y v u Q I rx ry ⟨B, m, w, z, rm, rw', rz, h⟩
  obtain ⟨i, j, rfl, rfl, h⟩ := cmpI_some h
  cases rw'
  cases rz
  exact op_gt pins s σ H _ _ v u Q I rx ry ⟨i, j, rfl, rfl, end_w h rm (.bl _)⟩
theorem op_geWW : OpR X (compareOp .GtE) (R2W N X.K E (cmpop .ge)) := by
  rintro pins s σ H x y v u Q I rx ry ⟨B, m, w, z, rm, rw', rz, h⟩
  obtain ⟨i, j, rfl, rfl, h⟩ := cmpI_some h
  cases rw'
  cases rz
  exact op_ge pins s σ H _ _ v u Q I rx ry ⟨i, j, rfl, rfl, end_w h rm (.bl _)⟩
theorem isNon_v {w : W} {v : V} (r : Rep K B H w v) : decide (v = .non) = isNon w := by
  cases r <;> simp [isNon]
theorem op_isWW : OpR X (compareOp .Is) (R2W N X.K E (cmpop .is)) := by
  rintro pins s σ H x y v u Q I rx ry ⟨B, m, w, z, rm, rw', rz, h⟩
  cases rz with
  | non => exact op_isN pins s σ H _ _ v u Q I rx ry ⟨rfl, by rw [isNon_v rw']; exact end_w h rm (.bl _)⟩
  | _ => exact False.elim h
theorem op_isnWW : OpR X (compareOp .IsNot) (R2W N X.K E (cmpop .isn)) := by
  rintro pins s σ H x y v u Q I rx ry ⟨B, m, w, z, rm, rw', rz, h⟩
  cases rz with
  | non => exact op_notN pins s σ H _ _ v u Q I rx ry ⟨rfl, by rw [isNon_v rw']; exact end_w h rm (.bl _)⟩
  | _ => exact False.elim h
/-! ### subscripts, slices -/
theorem ixI_eq : ixI = L2.ixN := rfl
theorem getI_at {A : Type} (xs : List A) (i : Int) : getI xs i = L2.atI xs i := rfl
theorem cutIx_eq (n d : Nat) (o : Option Int) : cutIx n d o = HT.sIx n d o := by cases o <;> rfl
theorem Reps.getI {ws : List W} {vs : List V} {i : Int} {w : W} (h : Reps K B H ws vs) (e : getI ws i = some w) : ∃ v, L2.atI vs i = some v ∧ Rep K B H w v := by
  unfold Mi.getI at e
  obtain ⟨j, h1, h2⟩ := Option.bind_eq_some_iff.mp e
  obtain ⟨v, h3, h4⟩ := h.get h2
  refine ⟨v, ?_, h4⟩
  unfold L2.atI
  rw [h.length, ← ixI_eq, h1]
  exact h3
theorem ix_SS : IxR X (R2W N X.K E idxS) := by
  rintro va sl pins s σ H x y v u Q I rx ry ⟨B, m, w, z, rm, rw', rz, h⟩ hs
  cases rz with
  | int i =>
    have seqs : ∀ {ws : List W}, seqW m w = some ws → Post N X.K E (RW X.K) B H (ofO m (getI ws i)) Q → wpAny (model X.prog X.w) X.A (subscriptTail va sl v u) (EP X pins σ Q) X.xe s := by
      intro ws e hq
      obtain ⟨g, e2, hq⟩ := Post.ofO hq
      obtain ⟨a, vs, rfl, hl, hr⟩ := seqW_sq rm rw' e
      obtain ⟨vv, h3, h4⟩ := hr.getI e2
      rcases hl with ⟨hl, _⟩ | ⟨ht, _⟩
      · exact ix_seq va sl pins s σ H _ _ v u Q I rx ry (.inl ⟨a, vs, i, vv, rfl, rfl, hl, h3, end_w hq rm h4⟩) hs
      · exact ix_seq va sl pins s σ H _ _ v u Q I rx ry (.inr (.inl ⟨a, vs, i, vv, rfl, rfl, ht, h3, end_w hq rm h4⟩)) hs
    cases rw' with
    | str t =>
      simp only [idxS] at h
      split at h
      · rename_i hz
        obtain ⟨r, e0, h⟩ := Post.ofO h
        obtain ⟨c, e, rfl⟩ := map_some e0
        refine ix_seq va sl pins s σ H _ _ v u Q I rx ry (.inr (.inr ⟨sx t, i, c.toNat, rfl, rfl, by rw [sx_length, ← SL_eq]; exact hz, ?_, end_w h rm (.str [c])⟩)) hs
        rw [sx_cps]
        unfold Mi.getI at e
        obtain ⟨j, h1, h2⟩ := Option.bind_eq_some_iff.mp e
        unfold L2.atI
        rw [List.length_map, ← ixI_eq, h1]
        show (t.map Char.toNat)[j]? = some c.toNat
        rw [List.getElem?_map, h2]
        rfl
      · exact h.elim
    | @tup ws a vs h1 h2 => exact seqs (ws := ws) rfl h
    | @obj k a hk =>
      simp only [idxS] at h
      split at h
      · exact seqs (by assumption) h
      · exact h.elim
    | @frz ns a hf => exact seqs (ws := ns.map .int) rfl h
    | _ => exact False.elim h
  | _ => exact False.elim h
/-! ### dicts -/
theorem key_eq {w w' : W} {k k' : Key} (h : KeyR w k) (h' : KeyR w' k') : keyEq w w' = decide (k = k') := by
  cases w <;> cases w' <;> cases k <;> cases k' <;> first
    | exact h.elim
    | exact h'.elim
    | (simp only [KeyR] at h h'; subst h h'; simp [keyEq]; done)
    | (simp only [KeyR] at h h'
       subst h h'
       simp only [keyEq, Sum.inr.injEq, decide_eq_decide]
       exact ⟨fun q => by rw [q], fun q => sx_inj q⟩)
theorem key_kV {w : W} {k : Key} {B : List Addr} {v : V} {H : Hp} (h : KeyR w k) (r : Rep K B H w v) : v = kV k := by
  cases w <;> cases k <;> first
    | exact h.elim
    | (cases r; simp only [KeyR] at h; subst h; rfl)
theorem isKey_some {w : W} (h : isKey w = true) : ∃ k, KeyR w k := by
  cases w with
  | int i => exact ⟨.inl i, rfl⟩
  | str x => exact ⟨.inr (sx x), rfl⟩
  | _ => cases h
theorem DRel.get {w u : W} {k : Key} (hk : KeyR w k) : ∀ {kvs : List (W × W)} {ks : List (Key × V)}, DRel K B H kvs ks → getK kvs w = some u → ∃ v, valV ks k = some v ∧ Rep K B H u v
  | _, _, .nil, e => by cases e
  | _, _, @DRel.cons _ _ _ w' u' k' v' kvs ks h r t, e => by
    have q := key_eq h hk
    unfold getK at e
    rw [List.find?_cons] at e
    simp only [q] at e
    by_cases z : k' = k
    · rw [decide_eq_true z] at e
      cases e
      exact ⟨v', valV_pos z, r⟩
    · rw [decide_eq_false z] at e
      obtain ⟨v, h1, h2⟩ := DRel.get hk t e
      exact ⟨v, by rw [valV_neg z]; exact h1, h2⟩
theorem DRel.any {w : W} {k : Key} (hk : KeyR w k) : ∀ {kvs : List (W × W)} {ks : List (Key × V)}, DRel K B H kvs ks → (kvs.any fun kv => keyEq kv.1 w) = ks.any fun kv => decide (kv.1 = k)
  | _, _, .nil => rfl
  | _, _, .cons h r t => by rw [List.any_cons, List.any_cons, DRel.any hk t, key_eq h hk]
theorem DRel.repl {w u : W} {k : Key} {v : V} (hk : KeyR w k) (ru : Rep K B H u v) : ∀ {kvs : List (W × W)} {ks : List (Key × V)}, DRel K B H kvs ks → DRel K B H (kvs.map fun kv => if keyEq kv.1 w = true then (kv.1, u) else kv) (ks.map fun kv => if kv.1 = k then (kv.1, v) else kv)
  | _, _, .nil => .nil
  | _, _, @DRel.cons _ _ _ w' u' k' v' kvs ks h r t => by
    have q := key_eq h hk
    rw [List.map_cons, List.map_cons]
    by_cases z : k' = k
    · rw [decide_eq_true z] at q
      rw [if_pos q, if_pos z]
      exact .cons h ru (DRel.repl hk ru t)
    · rw [decide_eq_false z] at q
      rw [if_neg (by rw [q]; exact Bool.false_ne_true), if_neg z]
      exact .cons h r (DRel.repl hk ru t)
theorem DRel.snoc {w u : W} {k : Key} {v : V} (hk : KeyR w k) (ru : Rep K B H u v) : ∀ {kvs : List (W × W)} {ks : List (Key × V)}, DRel K B H kvs ks → DRel K B H (kvs ++ [(w, u)]) (ks ++ [(k, v)])
  | _, _, .nil => .cons hk ru .nil
  | _, _, .cons h r t => .cons h r (DRel.snoc hk ru t)
theorem DRel.put {w u : W} {k : Key} {v : V} {kvs : List (W × W)} {ks : List (Key × V)} (hk : KeyR w k) (ru : Rep K B H u v) (d : DRel K B H kvs ks) : DRel K B H (putW kvs w u) (putK ks k v) := by
  unfold putW putK
  rw [d.any hk]
  split
  · exact d.repl hk ru
  · exact d.snoc hk ru
theorem DRel.merge {more : List (W × W)} {ms : List (Key × V)} (d : DRel K B H more ms) : ∀ {kvs : List (W × W)} {ks : List (Key × V)}, DRel K B H kvs ks → DRel K B H (mergeW kvs more) (mergeK ks ms) := by
  induction d with
  | nil => exact fun q => q
  | cons h r t ih => exact fun q => ih (q.put h r)
theorem RelM.dct (rm : RelM N K B m H) {k : Nat} {a : Addr} {kvs : List (W × W)} (hk : B[k]? = some a) (hm : m[k]? = some (.dct kvs)) : ∃ ks, H a = some (.dK ks) ∧ DRel K B H kvs ks := by
  obtain ⟨a', h1, h2⟩ := rm.ob k _ hm
  rw [hk] at h1
  cases h1
  exact h2
/-- a dict's place -/
theorem dct_rd (rm : RelM N K B m H) {w : W} {x : V} {kvs : List (W × W)} (r : Rep K B H w x) (h : dctAt m w = some kvs) : ∃ a ks, x = .ref a ∧ Rd H a (.dK ks) ∧ DRel K B H kvs ks := by
  unfold dctAt at h
  split at h
  · split at h
    · rename_i hm
      cases h
      cases r with
      | @obj _ ad hj =>
        obtain ⟨ks, q1, q2⟩ := rm.dct hj hm
        exact ⟨ad, ks, rfl, .inl q1, q2⟩
    · rename_i hm
      cases h
      cases r with
      | @obj _ ad hj =>
        obtain ⟨a', h1, h2⟩ := rm.ob _ _ hm
        rw [hj] at h1
        cases h1
        obtain ⟨o, ks, q1, q2⟩ := h2
        exact ⟨ad, ks, rfl, .inr ⟨o, q1⟩, q2⟩
    · cases h
  · cases h
theorem ix_WW (hu : X.A.units + 1 < cLine) : IxR X (R2W N X.K E idxW) := by
  rintro va sl pins s σ H x y v u Q I rx ry ⟨B, m, w, z, rm, rw', rz, h⟩ hs
  unfold idxW at h
  cases q : dctAt m w with
  | none =>
    rw [q] at h
    exact ix_SS va sl pins s σ H x y v u Q I rx ry ⟨B, m, w, z, rm, rw', rz, h⟩ hs
  | some kvs =>
    rw [q] at h
    dsimp only at h
    split at h
    · rename_i hk
      obtain ⟨k, kr⟩ := isKey_some hk
      obtain ⟨r, er, h⟩ := Post.ofO h
      obtain ⟨ad, ks, rfl, h1, h2⟩ := dct_rd rm rw' q
      obtain ⟨vv, h3, h4⟩ := h2.get kr er
      have ey := key_kV kr rz
      subst ey
      cases rx
      have g : DGet H ad (kV k) (some vv) := .inl ⟨ks, k, h1, rfl, h3.symm⟩
      exact tail_any (dict_typeIs I g) PySem.F.slot_dict_getitem.lookup (d_getItem hu I g ry fun w' s' I' r' => ⟨vv, H, I', r', end_w h rm h4⟩) hs
    · exact h.elim
theorem cut_v {ws : List W} {vs : List V} (h : Reps K B H ws vs) (lo hi : Option Int) : Reps K B H (cut ws lo hi) (L2.cutV vs lo hi) := by
  unfold cut L2.cutV
  rw [h.length]
  simp only [cutIx_eq]
  exact (h.drop _).take _
theorem cut_s (x : Tx) (lo hi : Option Int) : L2.cutS (sx x) lo hi = sx (cut x lo hi) := by
  unfold L2.cutS cut
  simp only [sx_length, cutIx_eq, sx_cps]
  unfold sx
  rw [← List.map_drop, ← List.map_take]
def R3W (N : Nms) (K : PySem.W.Frag) (E : XK) : V → Option Int → Option Int → Hp → VK → Prop := fun x l h H Q => ∃ B m w, RelM N K B m H ∧ Rep K B H w x ∧ Post N K E (RW K) B H (slcW w l h m) Q
theorem sl_WW : SlR X (R3W N X.K E) := by
  rintro pins s σ H x v vl vu lo hi sl Q I rx hs pl pu ⟨B, m, w, rm, rw', h⟩
  have lists : ∀ {ws : List W}, isLst m w = some ws → Post N X.K E (RW X.K) B H (alloc (.lst (cut ws lo hi)) m) Q → ∃ T id, typeLookup (.type T) "__getitem__" = pure (some (.builtin id)) ∧ s.TypeIs v T ∧ wpAny (model X.prog X.w) X.A (getItem v (.ref sl)) (EP X pins σ Q) X.xe s := by
    intro ws e hq
    obtain ⟨a, vs, rfl, hl, hr⟩ := isLst_sq rm rw' e
    exact sl_list pins s σ H _ v vl vu lo hi sl Q I rx hs pl pu ⟨a, vs, rfl, hl, fun p hp => end_lst hq rm (cut_v hr lo hi) hp⟩
  unfold slcW at h
  cases rw' with
  | str t =>
    simp only at h
    split at h
    · rename_i hz
      refine sl_str pins s σ H _ v vl vu lo hi sl Q I rx hs pl pu ⟨sx t, rfl, by rw [sx_length, ← SL_eq]; exact hz, ?_⟩
      rw [cut_s]
      exact end_w h rm (.str _)
    · exact h.elim
  | @tup ws a vs h1 h2 =>
    simp only at h
    split at h
    · exact h.elim
    · rename_i hw
      refine sl_tup pins s σ H _ v vl vu lo hi sl Q I rx hs pl pu ⟨a, vs, rfl, h1, ?_, fun p hp => end_tup h rm (cut_v h2 lo hi) hp⟩
      rw [h2.length]
      simp only [cutIx_eq] at hw
      exact hw
  | @obj k a hk =>
    simp only at h
    split at h
    · exact lists (by assumption) h
    · exact h.elim
  | @frz ns a hf => exact lists (ws := ns.map .int) rfl h
  | _ => exact False.elim h

/-! ### truth -/
theorem truth_v (rm : RelM N K B m H) {w : W} {x : V} {b : Bool} (r : Rep K B H w x) (h : truth m w = some b) : TruV K x H b := by
  cases r with
  | non => cases h; rfl
  | bl c => cases h; rfl
  | int i => cases h; rfl
  | str t =>
    simp only [truth] at h
    split at h
    · rename_i e
      cases h
      refine ⟨by rw [sx_length, ← SL_eq]; exact e, ?_⟩
      rw [sx_length]
      cases t <;> simp
      omega
    · cases h
  | @tup ws a vs h1 h2 =>
    cases h
    refine .inr (.inl ⟨vs, h1, ?_⟩)
    cases h2 <;> rfl
  | @frz ns a hf =>
    cases h
    refine .inl ⟨_, hf.sq, ?_⟩
    cases ns <;> rfl
  | @obj k a hk =>
    simp only [truth] at h
    split at h
    · rename_i ws e
      cases h
      obtain ⟨vs, h1, h2⟩ := rm.lst hk e
      refine .inl ⟨vs, SqL.of h1, ?_⟩
      cases h2 <;> rfl
    · cases h
/-! ### comparisons -/
theorem inW_some {w u : W} {b : Bool} (h : inW m w u = some b) :
    (∃ x y, u = .str y ∧ w = .str x ∧ b = subT x y) ∨ (∃ kvs, dctAt m u = some kvs ∧ isKey w = true ∧ b = (getK kvs w).isSome) ∨ ∃ us d es, seqW m u = some us ∧ toD m DD w = some d ∧ optL (toD m DD) us = some es ∧ b = es.any fun e => PyData.eqv e d := by
  unfold inW at h
  split at h
  · split at h
    · cases h
      exact .inl ⟨_, _, rfl, rfl, rfl⟩
    · cases h
  · split at h
    · rename_i kvs e
      split at h
      · rename_i hk
        cases h
        exact .inr (.inl ⟨kvs, e, hk, rfl⟩)
      · cases h
    · split at h
      · rename_i us e
        unfold inL at h
        split at h
        · rename_i d es h1 h2
          cases h
          exact .inr (.inr ⟨us, d, es, e, h1, h2, rfl⟩)
        · cases h
      · cases h
theorem getK_some {kvs : List (W × W)} {ks : List (Key × V)} {w : W} {k : Key} (hk : KeyR w k) (d : DRel K B H kvs ks) : (getK kvs w).isSome = (valV ks k).isSome := by
  rw [← valV_any k ks, ← d.any hk]
  unfold getK
  rw [Option.isSome_map]
  clear d hk
  induction kvs with
  | nil => rfl
  | cons p r ih =>
    rw [List.find?_cons, List.any_cons]
    cases q : keyEq p.1 w <;> simp [ih]
theorem dct_get (rm : RelM N K B m H) {w z : W} {x y : V} {kvs : List (W × W)} (rw' : Rep K B H w x) (rz : Rep K B H z y) (h1 : dctAt m z = some kvs) (h2 : isKey w = true) : ∃ a o, y = .ref a ∧ DGet H a x o ∧ o.isSome = (getK kvs w).isSome := by
  obtain ⟨k, kr⟩ := isKey_some h2
  obtain ⟨ad, ks, rfl, q1, q2⟩ := dct_rd rm rz h1
  have ex := key_kV kr rw'
  subst ex
  exact ⟨ad, valV ks k, rfl, .inl ⟨ks, k, q1, rfl, rfl⟩, (getK_some kr q2).symm⟩
theorem op_inWW (hu : X.A.units + 65 < cLine) : OpR X (compareOp .In) (R2W N X.K E (cmpop .inn)) := by
  rintro pins s σ H x y v u Q I rx ry ⟨B, m, w, z, rm, rw', rz, h⟩
  obtain ⟨r, e0, h⟩ := Post.ofO h
  obtain ⟨b, e, rfl⟩ := map_some e0
  rcases inW_some e with ⟨a, c, rfl, rfl, rfl⟩ | ⟨kvs, h1, h2, rfl⟩ | ⟨us, d, es, h1, h2, h3, rfl⟩
  · cases rw'
    cases rz
    exact op_in_str pins s σ H _ _ v u Q I rx ry ⟨_, _, rfl, rfl, end_w h rm (.bl _)⟩
  · obtain ⟨a, o, rfl, g, eo⟩ := dct_get rm rw' rz h1 h2
    cases ry
    refine d_in (by omega) I g rx fun s' I' => ⟨.bl _, H, I', rfl, ?_⟩
    rw [eo]
    exact end_w h rm (.bl _)
  · obtain ⟨a, vs, rfl, hs, hr⟩ := seqW_sq rm rz h1
    obtain ⟨as, r1⟩ := Dp.reads I d x v (toD_dp rm _ _ _ _ rw' h2) rx
    have hds := toDs_dp rm _ _ _ _ hr h3
    have q : EP X pins σ Q (.bool (es.any fun e => PyData.eqv e d)) s := ⟨.bl _, H, I, rfl, end_w h rm (.bl _)⟩
    rcases hs with ⟨hl, _⟩ | ⟨ht, _⟩
    · obtain ⟨bs, r2⟩ := Dp.reads I (.list es) _ u (.lst hl hds) ry
      exact SeqAt.in_list_reads r2 r1 (toDs_lay h3) (SeqAt.canLay_of_shaped (toD_shaped h2)) (room_in_shaped (toD_shaped h2) hu) q
    · obtain ⟨bs, r2⟩ := Dp.reads I (.tuple es) _ u (.tup ht hds) ry
      exact SeqAt.in_tuple_reads r2 r1 (toDs_lay h3) (SeqAt.canLay_of_shaped (toD_shaped h2)) (room_in_shaped (toD_shaped h2) hu) q
theorem op_ninWW (hu : X.A.units + 65 < cLine) : OpR X (compareOp .NotIn) (R2W N X.K E (cmpop .nin)) := by
  rintro pins s σ H x y v u Q I rx ry ⟨B, m, w, z, rm, rw', rz, h⟩
  obtain ⟨r, e0, h⟩ := Post.ofO h
  obtain ⟨b, e, rfl⟩ := map_some e0
  rcases inW_some e with ⟨a, c, rfl, rfl, rfl⟩ | ⟨kvs, h1, h2, rfl⟩ | ⟨us, d, es, h1, h2, h3, rfl⟩
  · cases rw'
    cases rz
    exact op_notIn_str pins s σ H _ _ v u Q I rx ry ⟨_, _, rfl, rfl, end_w h rm (.bl _)⟩
  · obtain ⟨a, o, rfl, g, eo⟩ := dct_get rm rw' rz h1 h2
    cases ry
    refine d_notIn (by omega) I g rx fun s' I' => ⟨.bl _, H, I', rfl, ?_⟩
    rw [eo]
    exact end_w h rm (.bl _)
  · obtain ⟨a, vs, rfl, hs, hr⟩ := seqW_sq rm rz h1
    obtain ⟨as, r1⟩ := Dp.reads I d x v (toD_dp rm _ _ _ _ rw' h2) rx
    have hds := toDs_dp rm _ _ _ _ hr h3
    have q : EP X pins σ Q (.bool (!es.any fun e => PyData.eqv e d)) s := ⟨.bl _, H, I, rfl, end_w h rm (.bl _)⟩
    rcases hs with ⟨hl, _⟩ | ⟨ht, _⟩
    · obtain ⟨bs, r2⟩ := Dp.reads I (.list es) _ u (.lst hl hds) ry
      exact SeqAt.notIn_list_reads r2 r1 (toDs_lay h3) (SeqAt.canLay_of_shaped (toD_shaped h2)) (room_in_shaped (toD_shaped h2) hu) q
    · obtain ⟨bs, r2⟩ := Dp.reads I (.tuple es) _ u (.tup ht hds) ry
      exact SeqAt.notIn_tuple_reads r2 r1 (toDs_lay h3) (SeqAt.canLay_of_shaped (toD_shaped h2)) (room_in_shaped (toD_shaped h2) hu) q
def copE : Cop → CmpOp
  | .eq => .Eq | .ne => .NotEq | .lt => .Lt | .le => .LtE | .gt => .Gt | .ge => .GtE | .inn => .In | .nin => .NotIn | .is => .Is | .isn => .IsNot
theorem op_cmpW (hu : X.A.units + 65 < cLine) (o : Cop) : OpR X (compareOp (copE o)) (R2W N X.K E (cmpop o)) := by
  cases o with
  | eq => exact op_eqWW (by omega)
  | ne => exact op_neWW (by omega)
  | lt => exact op_ltWW
  | le => exact op_leWW
  | gt => exact op_gtWW
  | ge => exact op_geWW
  | inn => exact op_inWW hu
  | nin => exact op_ninWW hu
  | is => exact op_isWW
  | isn => exact op_isnWW

end
end Mi
end

section
set_option Elab.async false
set_option linter.all false
set_option maxRecDepth 100000
set_option maxHeartbeats 4000000
/-! MiZ: sorted(..) and set(..) of a tuple of pairs. -/
namespace Mi
open PySem PySem.Spec PyProof.Rows L2

section
variable {prog : Program} {w : World} {A : Around} {E : Value → Shared → Prop} {s : Shared}
/-- a tuple's things gathered in a new list -/
theorem collectT {l : Addr} {vs : List Value} {Q : List Value → Shared → Prop} (hl : s.heap.IsTuple l vs.toArray)
    (h : Q vs { s with heap := (s.heap.push (seqObj "list" #[] 0)).update s.heap.objs.size (Obj.mapSeq (· ++ vs.toArray)) }) (hsz : vs.length ≤ sizeLine) :
    wpAny (model prog w) A (collect (.ref l)) Q E s := by
  obtain ⟨o, ho, hc, n, hd⟩ := id hl
  have ho' : (s.heap.push (seqObj "list" #[] 0)).get? l = some o := Heap.get?_push_of_some _ ho
  have hnew : (s.heap.push (seqObj "list" #[] 0)).get? s.heap.objs.size = some (seqObj "list" #[] 0) := Heap.get?_push_size _ rfl
  have hlen : (#[] ++ vs.toArray).size ≤ sizeLine + 1 := by
    simp only [Array.size_append, List.size_toArray, List.length_nil]
    omega
  unfold collect
  refine wpAny_bind (wpAny_runValue (codeAny_builtin entry_proto_collect' ?_))
  show wpAny _ _ (do again (.builtin "list.__iadd__" ⟨[← newList [], .ref l], []⟩)) _ _ s
  refine wpAny_bind (wpAny_newList (wpAny_pure ⟨Code.quiet_builtin _ (by decide +kernel), codeAny_builtin entry_list_iadd' ?_⟩))
  show wpAny _ _ (Builtin.List.listExtendWith (.ref s.heap.objs.size) (.ref l) (.ref s.heap.objs.size)) _ _ { s with heap := s.heap.push (seqObj "list" #[] 0) }
  unfold Builtin.List.listExtendWith
  refine wpAny_bind (wpAny_typeOf (T := "tuple") ⟨o, ho', hc⟩ ?_)
  have ht : (Value.type "tuple" == Value.type "tuple") = true := rfl
  rw [if_pos (by rw [ht]; simp)]
  refine wpAny_bind (listItems_at ho' hd (wpAny_bind (listItems_at (xs := #[]) (n := 0) hnew rfl ?_)))
  rw [if_neg (by simp)]
  refine wpAny_bind (listUpdate_at (xs := #[]) (n := 0) hnew rfl (wpAny_pure ?_) (Nat.zero_le _) hlen)
  show wpAny (model prog w) A (do
      let o ← load s.heap.objs.size
      match o.data with
      | .seq xs _ => pure xs.toList
      | _ => unsupported "internal:collect") Q E { s with heap := (s.heap.push (seqObj "list" #[] 0)).update s.heap.objs.size (Obj.mapSeq (· ++ vs.toArray)) }
  refine wpAny_bind (wpAny_load (get?_update_seq hnew _) ?_)
  show wpAny _ _ (pure ((#[] : Array Value) ++ vs.toArray).toList) Q E _
  rw [show ((#[] : Array Value) ++ vs.toArray).toList = vs by simp]
  exact wpAny_pure h
/-- sorted(xs) of a tuple -/
theorem sortedT {l : Addr} {vs : List Value} {d : Nat} {B : Int} {Q : Value → Shared → Prop} (hl : s.heap.IsTuple l vs.toArray) (h64 : vs.length < 64) (hd : 1 ≤ d) (x : TS.TupsOk s.heap d B vs)
    (h : ∀ out : Array Value, out.toList.Perm vs → out.toList.Pairwise (fun u v => TS.code B (TS.intsOf s.heap u) ≤ TS.code B (TS.intsOf s.heap v)) → Q (.ref (s.heap.objs.size + 1)) { s with heap := sortedAll s.heap vs out }) :
    wpAny (model prog w) A (call (.builtin "sorted") [.ref l]) Q E s := by
  refine Calls.call_function_entry kind_sorted plain_sorted entry_sorted (args_sorted1 _) ?_
  unfold Builtin.«sorted»
  refine wpAny_bind (m := checkCount "sorted" 1 1 _) (wpAny_pure ?_)
  refine wpAny_bind (collectT hl ?_ (by rw [sizeLine_eq]; omega))
  refine wpAny_bind (wpAny_newList ?_ (by rw [sizeLine_eq]; omega))
  have hsz : ((s.heap.push (seqObj "list" #[] 0)).update s.heap.objs.size (Obj.mapSeq (· ++ vs.toArray))).objs.size = s.heap.objs.size + 1 := by
    rw [Heap.size_update, size_push']
  have hoL : (((s.heap.push (seqObj "list" #[] 0)).update s.heap.objs.size (Obj.mapSeq (· ++ vs.toArray))).push (seqObj "list" vs.toArray 0)).get? (s.heap.objs.size + 1) = some (seqObj "list" vs.toArray 0) := by
    rw [← hsz]; exact Heap.get?_push_size _ rfl
  have keep : ∀ b o, s.heap.get? b = some o → o.cls = .type "tuple" → (((s.heap.push (seqObj "list" #[] 0)).update s.heap.objs.size (Obj.mapSeq (· ++ vs.toArray))).push (seqObj "list" vs.toArray 0)).get? b = some o := fun b o q _ => by
    have hlt : b < s.heap.objs.size := Heap.lt_size q
    rw [Heap.get?_push_ne _ _ _ (by rw [hsz]; exact Nat.ne_of_lt (Nat.lt_succ_of_lt hlt)), Heap.get?_update_ne _ _ _ _ (Nat.ne_of_lt hlt), Heap.get?_push_ne _ _ _ (Nat.ne_of_lt hlt)]
    exact q
  show wpAny _ _ _ _ _ { s with heap := ((s.heap.push (seqObj "list" #[] 0)).update s.heap.objs.size (Obj.mapSeq (· ++ vs.toArray))).push (seqObj "list" vs.toArray 0) }
  rw [hsz]
  refine wpAny_bind (wpAny_holding (wpAny_call_entry slot_list_sort ⟨_, hoL, rfl⟩ entry_list_sort (TS.sort_tups hoL h64 hd (x.keeps keep) (fun v => TS.code B (TS.intsOf s.heap v)) (fun v hv ns t => ?_) fun out a1 a2 => ⟨_, rfl, ?_⟩) (args_list_sort _)))
  · obtain ⟨ns0, t0, _⟩ := x v hv
    have e : ns = ns0 := t.ints.symm.trans (t0.keeps keep).ints
    rw [e]
    show TS.code B (TS.intsOf s.heap v) = TS.code B ns0
    rw [t0.ints]
  · exact wpAny_pure ⟨_, rfl, h out a1 a2⟩
end
section
variable {X : Cx}
def rSortU2 (K : PySem.W.Frag) (d : Nat) (B : Int) : List V → Hp → VK → Prop := fun vs H Q => ∃ (a : Addr) (xs : List V), vs = [V.ref a] ∧ SqT K H a xs ∧ xs.length < 64 ∧ (∀ x ∈ xs, ∃ ns, TupI K H x ns ∧ ns.length = d ∧ TS.Bd B ns) ∧
  ∀ (ys : List V) (p : Addr), ys.Perm xs → ys.Pairwise (fun x y => ∀ n m, TupI K H x n → TupI K H y m → TS.code B n ≤ TS.code B m) → H p = none → Q (.ref p) (upd H p (.lst ys))
theorem cr_sortT2 {d : Nat} {B : Int} (hd : 1 ≤ d) : CallR X (.builtin "sorted") (rSortU2 X.K d B) := by
  intro pins s σ H vs us Q I r h
  obtain ⟨a, xs, rfl, hs, h64, hx, q⟩ := h
  obtain ⟨its, rv, hl, hz⟩ := I.tuple hs
  have hz : xs.length ≤ sizeLine := by rw [sizeLine_eq]; omega
  rw [Vals.ref1 r]
  obtain ⟨e1, e2⟩ := bkV_refs rv fun x m => by
    obtain ⟨ns, ⟨t, e, _⟩, _⟩ := hx x m
    exact ⟨t, e⟩
  refine sortedT (d := d) (B := B) hl (by rw [← rv.length]; exact h64) hd (fun v hv => ?_) fun out h1 h2 => ?_
  · obtain ⟨t, rfl⟩ := e2 v hv
    have hm : V.ref t ∈ xs := by
      rw [e1]
      exact List.mem_map.mpr ⟨_, hv, rfl⟩
    obtain ⟨ns, ⟨t', e, ht⟩, hn, hb⟩ := hx _ hm
    cases e
    exact ⟨ns, tupI_raw I ht, hn, hb⟩
  · obtain ⟨ep, he'⟩ := PyProof.Rows.sortedAll_at s.heap its out
    have h3 : ∀ u ∈ out.toList, ∃ a, u = Value.ref a := fun u hu => e2 u (h1.mem_iff.mp hu)
    have hp : (out.toList.map bkV).Perm xs := by
      rw [e1]
      exact h1.map bkV
    have hlen : (out.toList.map bkV).length ≤ sizeLine := by
      rw [hp.length_eq]
      exact hz
    refine ⟨.ref _, upd H (s.heap.objs.size + 1) (.lst (out.toList.map bkV)), I.laid (t' := s.toks) (fun _ _ => PyProof.Rows.sortedAll_old) (Nat.le_succ _) ⟨hlen, out.toList, ep, bkV_vals h3, he'⟩, rfl, q _ _ hp ?_ (I.hok.fresh (Nat.le_succ _))⟩
    rw [List.pairwise_map]
    refine List.Pairwise.imp (fun {u v} huv n m hn hm => ?_) h2
    obtain ⟨t, et, ht⟩ := hn
    obtain ⟨t', et', ht'⟩ := hm
    have eu := bkV_ref et
    have ev := bkV_ref et'
    subst eu
    subst ev
    rw [(tupI_raw I ht).ints, (tupI_raw I ht').ints] at huv
    exact huv
end
section
variable {P : Program} {w : World} {A : Around} {E : Value → Shared → Prop} {s : Shared}
def set0 (w : World) : Obj := { cls := .type "set", dict := none, data := .set #[] 0 (.fresh 0 0 (!w.params.followText "set-order")) }
set_option maxHeartbeats 8000000 in
/-- set(xs) of a tuple of tuples of ints -/
theorem setT {l : Addr} {items : Array Value} (ks : List (Addr × List Int)) {Q : Value → Shared → Prop} (hh : A.handled = none) (hl : s.heap.IsTuple l items) (hit : items.toList = ks.map fun p => Value.ref p.1)
    (hk : ∀ p ∈ ks, IsT P w s.heap p.2 p.1) (hfew : ks.length < 64) (hu : A.units + 3 < cLine)
    (h : ∀ (h' : Heap) (tk : Nat) L es ep t, SetTR P w h' s.heap.objs.size L es ep t → Got ks ks.length L → (∀ b o, s.heap.get? b = some o → h'.get? b = some o) → Q (.ref s.heap.objs.size) { s with heap := h', toks := tk }) :
    wpAny (model P w) A (call (.type "set") [.ref l]) Q E s := by
  have hisz : items.size = ks.length := by
    have q := congrArg List.length hit
    rwa [Array.length_toList, List.length_map] at q
  have hval : ∀ (i : Nat) (v : Value), items[i]? = some v → ∃ p, ks[i]? = some p ∧ v = .ref p.1 := fun i v hv => by
    have q : items.toList[i]? = some v := by rw [Array.getElem?_toList]; exact hv
    rw [hit, List.getElem?_map, Option.map_eq_some_iff] at q
    obtain ⟨p, h1, h2⟩ := q
    exact ⟨p, h1, h2.symm⟩
  have none_of : ∀ b, s.heap.objs.size ≤ b → s.heap.get? b = none := fun b hb => by
    cases q : s.heap.get? b with
    | none => rfl
    | some o => exact absurd (Nat.lt_of_lt_of_le (Heap.lt_size q) hb) (Nat.lt_irrefl _)
  obtain ⟨c, tl, hmro⟩ := F.called_set.mro
  have hmade := F.called_set.made
  have hsub := F.called_set.sub
  refine wpAny_call (codeAny_of_tree ?_)
  show wpAny _ _ (callAny (.type "set") _) _ _ _
  refine wpAny_pure ⟨Code.quiet_builtin _ (by decide +kernel), codeAny_builtin F.entry_type_call ?_⟩
  rw [Around.under_plain (weight_type_call_type "set" [.ref l] []) rfl]
  have h1 := F.called_set.notType
  have h2 := F.called_set.canCreate
  have hct := F.typeCall_set_1 (.ref l)
  repeat (any_goals (first | assumption | wp_step))
  refine codeAny_mono (code_set_led1 (.ref l) (E := E) (Q₁ := fun obj s₁ => obj = .ref s.heap.objs.size ∧ s₁ = { s with heap := s.heap.push (set0 w) }) ⟨rfl, rfl⟩) fun r s₁ hr => ?_
  cases r with
  | error e => exact hr
  | ok fl =>
    cases fl with
    | ret obj =>
      obtain ⟨rfl, rfl⟩ := hr
      have hS : (s.heap.push (set0 w)).get? s.heap.objs.size = some (set0 w) := Heap.get?_push_size _ rfl
      have hT : Shared.TypeIs { s with heap := s.heap.push (set0 w) } (.ref s.heap.objs.size) "set" := ⟨_, hS, rfl⟩
      have hli := F.called_set.init.lookup
      have hbi := F.called_set.init.bind (.ref s.heap.objs.size)
      repeat (any_goals (first | assumption | wp_step))
      refine codeAny_mono (codeAny_call_builtin (R := wants (fun r s₂ => r = .none ∧ ∃ h' tk L es ep t, s₂ = { s with heap := h', toks := tk } ∧ SetTR P w h' s.heap.objs.size L es ep t ∧ Got ks ks.length L ∧
          (∀ b o, s.heap.get? b = some o → h'.get? b = some o)) E) F.called_set.init.plain F.entry_set_init (check_set_init_1 hT ?_)) fun r₂ s₂ hr₂ => ?_
      · obtain ⟨ol, hol, hcl, nl, hdl⟩ := hl
        obtain ⟨ocls, odict, odata, oslots⟩ := ol
        simp only at hcl hdl
        subst hcl
        subst hdl
        have hol' : (s.heap.push (set0 w)).get? l = some { cls := .type "tuple", dict := odict, data := .seq items nl, slots := oslots } := Heap.get?_push_of_some _ hol
        have hl1 : (s.heap.push (set0 w)).IsTuple l items := ⟨_, hol', rfl, nl, rfl⟩
        have hsls := F.sub_tuple_set
        have hslf := F.sub_tuple_frozenset
        have hne : (Value.type "tuple" == Value.type "dict") = false := by decide
        unfold Builtin.«set.__init__» noKeywords Builtin.Frozenset.updateFrom
        generalize hPI : pyIter = PI
        wp_walk
        subst hPI
        refine wpAny_pyIter_tuple hl1 (wpAny_bind (wpAny_runValue ?_))
        have hlS : l < s.heap.objs.size := Heap.lt_size hol
        have hh3 : A.in1.in1.in1.handled = none := by simp [hh]
        have hneI : l ≠ (s.heap.push (set0 w)).objs.size := by
          rw [Heap.size_push]; exact Nat.ne_of_lt (Nat.lt_succ_of_lt hlS)
        have hSf : s.heap.objs.size ∉ [(s.heap.push (set0 w)).objs.size, l] := by
          rw [Heap.size_push]
          simp only [List.mem_cons, List.mem_singleton, List.not_mem_nil, or_false, not_or]
          exact ⟨Nat.ne_of_lt (Nat.lt_succ_self _), Nat.ne_of_gt hlS⟩
        refine set_update_tups ((Walks.tuple hh3 _ l hneI items).toS) s.heap.objs.size hSf ks hisz hfew hval s.heap hk (none_of _ (Nat.le_refl _)) (fun b hb => none_of b (by
            rw [List.mem_singleton.mp hb, Heap.size_push]
            exact Nat.le_succ _)) hu (items.size - 0) 0 _ (by omega) (Nat.zero_le _)
          ⟨⟨_, Heap.get?_push_size _ rfl, rfl, rfl⟩, hl1.push _⟩ (fun b o e => Heap.get?_push_of_some _ (Heap.get?_push_of_some _ e)) ?hS0 ?hR
        case hS0 => exact ⟨[], #[], 0, _, setTR_fresh (Heap.get?_push_of_some _ hS), Got.zero ks⟩
        case hR =>
          intro s' L es ep t hm hS' g' hkp
          obtain ⟨h', g2, d', tk', os'⟩ := s'
          have eg : g2 = s.gens := hm.gens
          have ed : d' = s.drawn := hm.drawn
          have eo : os' = s.os := hm.os
          subst eg
          subst ed
          subst eo
          rw [hisz] at g'
          show wpAny _ _ _ _ _ _
          refine wpAny_pure ?_
          show wpAny _ _ (ret Value.none) _ _ _
          exact wpAny_pure ⟨rfl, h', tk', L, es, ep, t, rfl, hS', g', hkp⟩
      · cases r₂ with
        | error e => exact hr₂
        | ok fl₂ =>
          cases fl₂ with
          | ret r =>
            obtain ⟨rfl, h', tk, L, es, ep, t, rfl, hS', g', hk'⟩ := hr₂
            repeat (any_goals (first | assumption | wp_step))
            exact h _ _ _ _ _ _ hS' g' hk'
          | _ => exact hr₂.elim
    | _ => exact hr.elim
end
section
variable {X : Cx}
def rSetOfT2 (K : PySem.W.Frag) (P : Program) (w : World) : List V → Hp → VK → Prop := fun xs H Q => ∃ (l : Addr) (ks : List (Addr × List Int)), xs = [V.ref l] ∧ (SqL K H l (ks.map fun p => V.ref p.1) ∨ SqT K H l (ks.map fun p => V.ref p.1)) ∧ (∀ p ∈ ks, SqT K H p.1 (p.2.map V.int)) ∧ ks.length < 64 ∧
  ∀ a L, H a = none → (∀ p ∈ L, p ∈ ks) → (∀ p ∈ ks, p.2 ∈ L.map (·.2)) → Q (.ref a) (upd H a (SetTO P w a L))
theorem cr_setOfT2 (hc : X.calm = true) (hu : X.A.units + 64 < cLine) : CallR X (.type "set") (rSetOfT2 X.K X.prog X.w) := by
  intro pins s σ H xs us Q I r h
  obtain ⟨l, ks, rfl, hl | hl, hk, hf, q⟩ := h
  · exact cr_setOfT hc hu pins s σ H _ us Q I r ⟨l, ks, rfl, hl, hk, hf, q⟩
  · rw [Vals.ref1 r]
    obtain ⟨its, rv, pl, hz⟩ := I.tuple hl
    have hn : H s.heap.objs.size = none := I.hok.fresh (Nat.le_refl _)
    refine setT (P := X.prog) (w := X.w) ks (I.ok.hd hc) pl (by simpa using refs_of_vals rv) (fun p hp => I.isT (hk p hp)) hf (by omega) fun h' tk L es ep t R g k => ?_
    refine ⟨.ref s.heap.objs.size, upd H s.heap.objs.size (SetTO X.prog X.w s.heap.objs.size L), I.laid (t' := tk) k (Nat.le_refl _) (setTO_new R.t0), rfl, q _ L hn (fun p hp => ?_) fun p hp => ?_⟩
    · exact List.mem_of_mem_take (g.sub p hp)
    · exact g.all p (by rw [List.take_length]; exact hp)
end
end Mi
end

section
set_option Elab.async false
set_option linter.all false
set_option maxRecDepth 100000
set_option maxHeartbeats 4000000
/-! MiE: built-in functions and methods, isinstance, by values. -/
namespace Mi
open PySem PySem.Spec PyProof.Rows L2

section
variable {N : Nms} {K : PySem.W.Frag} {E : XK} {B B' : List Addr} {H H' : Hp} {m : Mem} {Q : VK} {X : Cx}
theorem Reps.one {w : W} {xs : List V} (h : Reps K B H [w] xs) : ∃ x, xs = [x] ∧ Rep K B H w x := by
  cases h with
  | cons h1 h2 => cases h2; exact ⟨_, rfl, h1⟩
theorem Reps.two {w u : W} {xs : List V} (h : Reps K B H [w, u] xs) : ∃ x y, xs = [x, y] ∧ Rep K B H w x ∧ Rep K B H u y := by
  cases h with
  | cons h1 h2 =>
    obtain ⟨y, rfl, h3⟩ := h2.one
    exact ⟨_, y, rfl, h1, h3⟩
theorem Reps.zero {xs : List V} (h : Reps K B H [] xs) : xs = [] := by cases h; rfl
theorem asBls_v : ∀ {ws : List W} {vs : List V} {bs : List Bool}, Reps K B H ws vs → asBls ws = some bs → vs = bs.map V.bl
  | [], _, _, r, e => by cases r; cases e; rfl
  | w :: ws, _, _, r, e => by
    cases r with
    | cons r1 r2 =>
      unfold asBls at e
      simp only [optL] at e
      split at e
      · rename_i b bs e1 e2
        cases e
        split at e1
        · cases e1
          cases r1
          rw [asBls_v r2 (show asBls ws = some bs from e2)] <;> rfl
        · cases e1
      · cases e
theorem strL_v : ∀ {ws : List W} {vs : List V} {xs : List Tx}, Reps K B H ws vs → strL ws = some xs → vs = (xs.map sx).map V.str
  | [], _, _, r, e => by cases r; cases e; rfl
  | w :: ws, _, _, r, e => by
    cases r with
    | cons r1 r2 =>
      unfold strL at e
      simp only [optL] at e
      split at e
      · rename_i b bs e1 e2
        cases e
        split at e1
        · cases e1
          cases r1
          rw [strL_v r2 (show strL ws = some bs from e2)] <;> rfl
        · cases e1
      · cases e
theorem join_sx (s : Tx) : ∀ xs : List Tx, Txt.join (sx s) (xs.map sx) = sx (joinT s xs)
  | [] => by rw [TL.join_eq] <;> rfl
  | [x] => by rw [TL.join_eq] <;> rfl
  | x :: y :: r => by
    have ih := join_sx s (y :: r)
    rw [TL.join_eq] at ih ⊢
    have e : Str.join (sx s) ((x :: y :: r).map sx) = sx x ++ sx s ++ Str.join (sx s) ((y :: r).map sx) := by
      first | rfl | simp [Str.join]
    rw [e, ih, sx_append, sx_append] <;> rfl

/-! ### sorted -/
theorem insS_perm {A : Type} {f : A → Int} {a : A} : ∀ l : List A, (insS f a l).Perm (a :: l)
  | [] => .refl _
  | b :: r => by
    unfold insS
    split
    · exact .refl _
    · exact ((insS_perm r).cons b).trans (.swap a b r)
theorem srtB_perm {A : Type} {f : A → Int} : ∀ l : List A, (srtB f l).Perm l
  | [] => .refl _
  | a :: r => (insS_perm _).trans ((srtB_perm r).cons a)
theorem insS_ord {A : Type} {f : A → Int} {a : A} : ∀ {l : List A}, l.Pairwise (fun x y => f x ≤ f y) → (insS f a l).Pairwise (fun x y => f x ≤ f y)
  | [], _ => List.pairwise_singleton _ _
  | b :: r, h => by
    unfold insS
    split
    · rename_i hab
      refine List.pairwise_cons.mpr ⟨fun x hx => ?_, h⟩
      rcases List.mem_cons.mp hx with rfl | hx
      · exact hab
      · exact Int.le_trans hab ((List.pairwise_cons.mp h).1 x hx)
    · rename_i hab
      obtain ⟨h1, h2⟩ := List.pairwise_cons.mp h
      refine List.pairwise_cons.mpr ⟨fun x hx => ?_, insS_ord h2⟩
      rcases List.mem_cons.mp ((insS_perm r).mem_iff.mp hx) with rfl | hx
      · omega
      · exact h1 x hx
theorem srtB_ord {A : Type} {f : A → Int} : ∀ l : List A, (srtB f l).Pairwise (fun x y => f x ≤ f y)
  | [] => .nil
  | a :: r => insS_ord (srtB_ord r)
/-- there is one such list alone -/
theorem srtB_uniq {A : Type} {f : A → Int} {l k : List A} (hp : k.Perm l) (ho : k.Pairwise fun x y => f x ≤ f y) (hi : ∀ x ∈ l, ∀ y ∈ l, f x = f y → x = y) : k = srtB f l := by
  refine List.Perm.eq_of_pairwise (le := fun x y => f x ≤ f y) (fun x y hx hy a b => ?_) ho (srtB_ord l) (hp.trans (srtB_perm l).symm)
  exact hi x (hp.mem_iff.mp hx) y ((srtB_perm l).mem_iff.mp hy) (Int.le_antisymm a b)
theorem perm_reps {xs ys : List V} (p : ys.Perm xs) : ∀ {ws : List W}, Reps K B H ws xs → ∃ us, us.Perm ws ∧ Reps K B H us ys := by
  induction p with
  | nil => intro ws r; exact ⟨ws, .refl _, r⟩
  | cons x _ ih =>
    intro ws r
    cases r with
    | cons r1 r2 =>
      obtain ⟨us, h1, h2⟩ := ih r2
      exact ⟨_ :: us, h1.cons _, .cons r1 h2⟩
  | swap x y l =>
    intro ws r
    cases r with
    | cons r1 r =>
      cases r with
      | cons r2 r => exact ⟨_, .swap _ _ _, .cons r2 (.cons r1 r)⟩
  | trans _ _ ih1 ih2 =>
    intro ws r
    obtain ⟨us, h1, h2⟩ := ih2 r
    obtain ⟨vs, h3, h4⟩ := ih1 h2
    exact ⟨vs, h3.trans h1, h4⟩
theorem intsW_v : ∀ {ws : List W} {vs : List V} {is : List Int}, Reps K B H ws vs → intsW ws = some is → vs = is.map V.int ∧ ws = is.map W.int
  | [], _, _, r, e => by cases r; cases e; exact ⟨rfl, rfl⟩
  | w :: ws, _, _, r, e => by
    cases r with
    | cons r1 r2 =>
      unfold intsW at e
      simp only [optL] at e
      split at e
      · rename_i b bs e1 e2
        cases e
        unfold intW at e1
        split at e1
        · cases e1
          cases r1
          obtain ⟨h1, h2⟩ := intsW_v r2 (show intsW ws = some bs from e2)
          exact ⟨by rw [h1] <;> rfl, by rw [h2] <;> rfl⟩
        · cases e1
      · cases e
theorem tupI_v {w : W} {x : V} {ns : List Int} (r : Rep K B H w x) (e : tupI w = some ns) : TupI K H x ns ∧ w = .tup (ns.map W.int) := by
  unfold tupI at e
  split at e
  · cases r with
    | tup ht hr =>
      obtain ⟨h1, h2⟩ := intsW_v hr e
      subst h1 h2
      exact ⟨⟨_, rfl, ht⟩, rfl⟩
  · cases e
theorem tupOk_of {d : Nat} {w : W} (h : tupOk d w = true) : ∃ ns, tupI w = some ns ∧ ns.length = d ∧ TS.Bd SB ns := by
  unfold tupOk at h
  split at h
  · rename_i ns e
    obtain ⟨h1, h2⟩ := Bool.and_eq_true_iff.mp h
    refine ⟨ns, e, of_decide_eq_true h1, fun n hn => ?_⟩
    have q := List.all_eq_true.mp h2 n hn
    obtain ⟨q1, q2⟩ := Bool.and_eq_true_iff.mp q
    exact ⟨of_decide_eq_true q1, of_decide_eq_true q2⟩
  · cases h
theorem codeW_tup {w : W} {ns : List Int} (e : tupI w = some ns) : codeW w = TS.code SB ns := by
  cases w with
  | tup ws =>
    show TS.code SB ((tupI (.tup ws)).getD []) = _
    rw [e] <;> rfl
  | _ => cases e
theorem reps_mem {ws : List W} {vs : List V} (r : Reps K B H ws vs) {v : V} (h : v ∈ vs) : ∃ w ∈ ws, Rep K B H w v := by
  induction vs generalizing ws with
  | nil => cases h
  | cons x vs ih =>
    cases r with
    | cons r1 r2 =>
      rcases List.mem_cons.mp h with rfl | h
      · exact ⟨_, List.mem_cons_self, r1⟩
      · obtain ⟨w, hw, q⟩ := ih r2 h
        exact ⟨w, List.mem_cons_of_mem _ hw, q⟩
theorem reps_mem' {ws : List W} {vs : List V} (r : Reps K B H ws vs) {w : W} (h : w ∈ ws) : ∃ v ∈ vs, Rep K B H w v := by
  induction ws generalizing vs with
  | nil => cases h
  | cons x vs ih =>
    cases r with
    | cons r1 r2 =>
      rcases List.mem_cons.mp h with rfl | h
      · exact ⟨_, List.mem_cons_self, r1⟩
      · obtain ⟨w, hw, q⟩ := ih r2 h
        exact ⟨w, List.mem_cons_of_mem _ hw, q⟩
theorem reps_pair {P : V → V → Prop} {S : W → W → Prop} (h : ∀ w x u y, Rep K B H w x → Rep K B H u y → P x y → S w u) : ∀ {ws : List W} {vs : List V}, Reps K B H ws vs → vs.Pairwise P → ws.Pairwise S
  | [], _, .nil, _ => .nil
  | w :: ws, _, .cons r1 r2, p => by
    obtain ⟨p1, p2⟩ := List.pairwise_cons.mp p
    refine List.pairwise_cons.mpr ⟨fun u hu => ?_, reps_pair h r2 p2⟩
    obtain ⟨y, hy, ry⟩ := reps_mem' r2 hu
    exact h _ _ _ _ r1 ry (p1 y hy)
theorem code2_inj {ns ms : List Int} (h1 : ns.length = 2) (h2 : ms.length = 2) (b1 : TS.Bd SB ns) (b2 : TS.Bd SB ms) (e : TS.code SB ns = TS.code SB ms) : ns = ms := by
  obtain ⟨a, b, rfl⟩ : ∃ a b, ns = [a, b] := by
    match ns, h1 with
    | [a, b], _ => exact ⟨a, b, rfl⟩
  obtain ⟨c, d, rfl⟩ : ∃ a b, ms = [a, b] := by
    match ms, h2 with
    | [a, b], _ => exact ⟨a, b, rfl⟩
  have ha := b1 a (by simp)
  have hb := b1 b (by simp)
  have hc := b2 c (by simp)
  have hd := b2 d (by simp)
  simp only [TS.code, SB, List.length_cons, List.length_nil] at e ha hb hc hd
  have e1 : a = c := by omega
  have e2 : b = d := by omega
  rw [e1, e2]
/-- the tuples' case -/
theorem srt_tups {ws us : List W} {xs ys : List V} (h : (ws.all (tupOk 2)) = true) (r : Reps K B H ws xs) (hp : us.Perm ws) (ru : Reps K B H us ys) (ho : ys.Pairwise (fun x y => ∀ n m, TupI K H x n → TupI K H y m → TS.code SB n ≤ TS.code SB m)) : us = srtB codeW ws := by
  have hm : ∀ w ∈ ws, ∃ ns, tupI w = some ns ∧ ns.length = 2 ∧ TS.Bd SB ns := fun w hw => tupOk_of (List.all_eq_true.mp h w hw)
  refine srtB_uniq hp ?_ fun w hw u hu e => ?_
  · have z : us.Pairwise fun w u => w ∈ ws → u ∈ ws → codeW w ≤ codeW u := reps_pair (fun w x u y rx ry p hw hu => by
      obtain ⟨n, e1, _, _⟩ := hm w hw
      obtain ⟨k, e2, _, _⟩ := hm u hu
      rw [codeW_tup e1, codeW_tup e2]
      exact p n k (tupI_v rx e1).1 (tupI_v ry e2).1) ru ho
    exact List.Pairwise.imp_of_mem (fun {a b} ha hb q => q (hp.mem_iff.mp ha) (hp.mem_iff.mp hb)) z
  · obtain ⟨n, e1, e2, e3⟩ := hm w hw
    obtain ⟨k, f1, f2, f3⟩ := hm u hu
    rw [codeW_tup e1, codeW_tup f1] at e
    have q := code2_inj e2 f2 e3 f3 e
    subst q
    obtain ⟨x, _, rx⟩ := reps_mem' r hw
    obtain ⟨y, _, ry⟩ := reps_mem' r hu
    rw [(tupI_v rx e1).2, (tupI_v ry f1).2]
/-! ### functions -/
def bltV : Blt → Value
  | .len => .builtin "len" | .int1 => .type "int" | .all => .builtin "all" | .any => .builtin "any" | .min2 => .builtin "min" | .max2 => .builtin "max"
  | .list => .type "list" | .tuple => .type "tuple" | .sorted => .builtin "sorted" | .dict1 => .type "dict"
theorem lenW_v (rm : RelM N K B m H) {w : W} {x : V} {n : Nat} (hd : dctAt m w = none) (r : Rep K B H w x) (h : lenW m w = some n) : LenV K x H n := by
  have seqs : ∀ {ws : List W}, seqW m w = some ws → n = ws.length → LenV K x H n := by
    intro ws e en
    obtain ⟨a, vs, rfl, hl, hr⟩ := seqW_sq rm r e
    have hz := hr.length
    rcases hl with ⟨hl, _⟩ | ⟨ht, _⟩
    · exact .inl ⟨vs, hl, by omega⟩
    · exact .inr ⟨vs, ht, by omega⟩
  cases r with
  | str t =>
    simp only [lenW] at h
    split at h
    · rename_i hz
      cases h
      exact ⟨by rw [sx_length, ← SL_eq]; exact hz, (sx_length t).symm⟩
    · cases h
  | _ =>
    simp only [lenW, hd] at h
    obtain ⟨ws, e, en⟩ := map_some h
    exact seqs e en
theorem DRel.length {kvs : List (W × W)} {ks : List (Key × V)} (d : DRel K B H kvs ks) : ks.length = kvs.length := by
  induction d with
  | nil => rfl
  | cons _ _ _ ih => simp [ih]
theorem end_dct {kvs : List (W × W)} {ks : List (Key × V)} (h : Post N K E (RW K) B H (alloc (.dct kvs) m) Q) (rm : RelM N K B m H) (r : DRel K B H kvs ks) {p : Addr} (hp : H p = none) : Q (.ref p) (upd H p (.dK ks)) := by
  have g1 := grow_new (B := B) (u := .dK ks) hp
  have rm1 := rm.new (u := .dK ks) (o := .dct kvs) hp ⟨ks, upd_same, r.grow g1⟩
  refine h (B ++ [p]) _ _ g1 rm1 (.obj ?_)
  rw [List.getElem?_append_right (by rw [rm.len]; exact Nat.le_refl _), rm.len]
  simp
theorem pairs2_v : ∀ {us : List W} {vs : List V} {kvs : List (W × W)}, Reps K B H us vs → pairs2 us = some kvs → ∃ ps ks, vs = ps.map V.ref ∧ Paired (fun p kv => SqT K H p [kV kv.1, kv.2]) ps ks ∧ DRel K B H kvs ks
  | [], _, _, r, e => by
    cases r
    cases e
    exact ⟨[], [], rfl, .nil, .nil⟩
  | w :: us, _, _, r, e => by
    cases r with
    | cons r1 r2 =>
      unfold pairs2 at e
      simp only [optL] at e
      split at e
      · rename_i p bs e1 e2
        cases e
        split at e1
        · rename_i k v
          split at e1
          · rename_i hk
            cases e1
            obtain ⟨kk, kr⟩ := isKey_some hk
            cases r1 with
            | @tup _ a xs ht hr =>
              obtain ⟨x, y, rfl, h1, h2⟩ := hr.two
              have ex := key_kV kr h1
              subst ex
              obtain ⟨ps, ks, q1, q2, q3⟩ := pairs2_v r2 (show pairs2 us = some bs from e2)
              exact ⟨a :: ps, (kk, y) :: ks, by rw [q1] <;> rfl, .cons ht q2, .cons kr h2 q3⟩
          · cases e1
        · cases e1
      · cases e
theorem call_lenR : CallR X (.builtin "len") (fun xs H Q => ∃ a kvs, xs = [V.ref a] ∧ Rd H a (.dK kvs) ∧ Q (.int (kvs.length : Nat)) H) := by
  rintro pins s σ H xs us Q I r ⟨a, kvs, rfl, ha, q⟩
  obtain ⟨u, rfl, ru⟩ := vals1 r
  cases ru
  exact d_len I ha fun t s' I' => ⟨.int (kvs.length : Nat), H, I', ⟨t, rfl⟩, q⟩
theorem blt_W (hc : X.calm = true) (b : Blt) : CallR X (bltV b) (RLW N X.K E (bltW b)) := by
  rintro pins s σ H xs us Q I rx ⟨B, m, ws, rm, rw', h⟩
  cases b with
  | len =>
    simp only [bltW] at h
    split at h
    · rename_i w
      obtain ⟨x, rfl, r⟩ := rw'.one
      obtain ⟨y, e0, h⟩ := Post.ofO h
      obtain ⟨n, e, rfl⟩ := map_some e0
      cases hd : dctAt m w with
      | none => exact call_len pins s σ H _ us Q I rx ⟨x, n, rfl, lenW_v rm hd r e, end_w h rm (.int _)⟩
      | some kvs =>
        obtain ⟨a, ks, rfl, q1, q2⟩ := dct_rd rm r hd
        refine call_lenR pins s σ H _ us Q I rx ⟨a, ks, rfl, q1, ?_⟩
        have en : n = ks.length := by
          rw [q2.length]
          cases w with
          | obj k =>
            simp only [lenW, hd, Option.some.injEq] at e
            exact e.symm
          | _ => cases hd
        rw [← en]
        exact end_w h rm (.int _)
    · exact h.elim
  | int1 =>
    simp only [bltW] at h
    split at h
    · obtain ⟨x, rfl, r⟩ := rw'.one
      cases r
      exact call_int1 pins s σ H _ us Q I rx (.inl ⟨_, rfl, end_w h rm (.int _)⟩)
    · obtain ⟨x, rfl, r⟩ := rw'.one
      cases r
      exact call_int1 pins s σ H _ us Q I rx (.inr ⟨_, rfl, end_w h rm (.int _)⟩)
    · exact h.elim
  | all =>
    simp only [bltW] at h
    split at h
    · rename_i w
      obtain ⟨x, rfl, r⟩ := rw'.one
      split at h
      · rename_i ws e
        obtain ⟨y, e0, h⟩ := Post.ofO h
        obtain ⟨bs, e1, rfl⟩ := map_some e0
        obtain ⟨a, vs, rfl, hl, hr⟩ := isLst_sq rm r e
        have ev := asBls_v hr e1
        subst ev
        exact cr_all hc pins s σ H _ us Q I rx ⟨a, bs, rfl, hl, end_w h rm (.bl _)⟩
      · exact h.elim
    · exact h.elim
  | any =>
    simp only [bltW] at h
    split at h
    · rename_i w
      obtain ⟨x, rfl, r⟩ := rw'.one
      split at h
      · rename_i ws e
        obtain ⟨y, e0, h⟩ := Post.ofO h
        obtain ⟨bs, e1, rfl⟩ := map_some e0
        obtain ⟨a, vs, rfl, hl, hr⟩ := isLst_sq rm r e
        have ev := asBls_v hr e1
        subst ev
        exact cr_any hc pins s σ H _ us Q I rx ⟨a, bs, rfl, hl, end_w h rm (.bl _)⟩
      · exact h.elim
    · exact h.elim
  | min2 =>
    simp only [bltW] at h
    split at h
    · obtain ⟨x, y, rfl, r, r'⟩ := rw'.two
      cases r
      cases r'
      exact call_min2 hc pins s σ H _ us Q I rx ⟨_, _, rfl, end_w h rm (.int _)⟩
    · exact h.elim
  | max2 =>
    simp only [bltW] at h
    split at h
    · obtain ⟨x, y, rfl, r, r'⟩ := rw'.two
      cases r
      cases r'
      exact call_max2 hc pins s σ H _ us Q I rx ⟨_, _, rfl, end_w h rm (.int _)⟩
    · exact h.elim
  | list =>
    simp only [bltW] at h
    split at h
    · obtain ⟨x, rfl, r⟩ := rw'.one
      split at h
      · rename_i us' e
        obtain ⟨a, vs, rfl, hl, hr⟩ := seqW_sq rm r e
        exact call_list_of pins s σ H _ us Q I rx ⟨a, vs, rfl, hl.imp (·.1) (·.1), fun p hp => end_lst h rm hr hp⟩
      · exact h.elim
    · exact h.elim
  | tuple =>
    simp only [bltW] at h
    split at h
    · obtain ⟨x, rfl, r⟩ := rw'.one
      split at h
      · rename_i us' e
        obtain ⟨a, vs, rfl, hl, hr⟩ := seqW_sq rm r e
        refine call_tuple_of pins s σ H _ us Q I rx ⟨a, vs, rfl, ?_⟩
        rcases hl with ⟨hl, _⟩ | ⟨ht, _⟩
        · exact .inl ⟨hl, fun p hp => end_tup h rm hr hp⟩
        · exact .inr ⟨ht, end_w h rm (.tup ht hr)⟩
      · exact h.elim
    · exact h.elim
  | sorted =>
    simp only [bltW] at h
    split at h
    · obtain ⟨x, rfl, r⟩ := rw'.one
      split at h
      · rename_i us' e
        obtain ⟨a, vs, rfl, hl, hr⟩ := isLst_sq rm r e
        split at h
        · rename_i hk
          unfold srtOk at hk
          rw [Bool.or_eq_true, Bool.and_eq_true] at hk
          cases q : intsW us' with
          | some is =>
            obtain ⟨h1, h2⟩ := intsW_v hr q
            subst h1 h2
            refine cr_sortedI pins s σ H _ us Q I rx ⟨a, is, rfl, hl, fun ns' p hp ho hn => ?_⟩
            have e1 : ns'.map W.int = srtB codeW (is.map W.int) := srtB_uniq (hp.map _) (by
              rw [List.pairwise_map]
              exact ho) fun x hx y hy e => by
                obtain ⟨i, _, rfl⟩ := List.mem_map.mp hx
                obtain ⟨j, _, rfl⟩ := List.mem_map.mp hy
                have e' : i = j := e
                rw [e']
            rw [← e1] at h
            exact end_lst h rm (Reps.ints ns') hn
          | none =>
            rw [q] at hk
            rcases hk with hk | ⟨hk1, hk2⟩
            · cases hk
            have h64 := of_decide_eq_true hk1
            refine cr_sortT (d := 2) (B := SB) (by decide) pins s σ H _ us Q I rx ⟨a, vs, rfl, hl, by rw [hr.length]; exact h64, fun x hx => ?_, fun ys p hp ho hn => ?_⟩
            · obtain ⟨w, hw, rx⟩ := reps_mem hr hx
              obtain ⟨ns, e1, e2, e3⟩ := tupOk_of (List.all_eq_true.mp hk2 w hw)
              exact ⟨ns, (tupI_v rx e1).1, e2, e3⟩
            · obtain ⟨vs2, p1, p2⟩ := perm_reps hp hr
              have e1 := srt_tups hk2 hr p1 p2 ho
              subst e1
              exact end_lst h rm p2 hn
        · exact h.elim
      · split at h
        · rename_i us'
          split at h
          · rename_i hk
            unfold setOk at hk
            rw [Bool.and_eq_true] at hk
            obtain ⟨hk1, hk2⟩ := hk
            have h64 := of_decide_eq_true hk1
            cases r with
            | @tup _ a vs ht hr =>
              refine cr_sortT2 (d := 2) (B := SB) (by decide) pins s σ H _ us Q I rx ⟨a, vs, rfl, ht, by rw [hr.length]; exact h64, fun x hx => ?_, fun ys p hp ho hn => ?_⟩
              · obtain ⟨w, hw, rx⟩ := reps_mem hr hx
                obtain ⟨ns, e1, e2, e3⟩ := tupOk_of (List.all_eq_true.mp hk2 w hw)
                exact ⟨ns, (tupI_v rx e1).1, e2, e3⟩
              · obtain ⟨vs2, p1, p2⟩ := perm_reps hp hr
                have e1 := srt_tups hk2 hr p1 p2 ho
                subst e1
                exact end_lst h rm p2 hn
          · exact h.elim
        · exact h.elim
    · exact h.elim
  | dict1 =>
    simp only [bltW] at h
    split at h
    · rename_i w
      obtain ⟨x, rfl, r⟩ := rw'.one
      split at h
      · rename_i kvs e
        obtain ⟨a, ks, rfl, q1, q2⟩ := dct_rd rm r e
        exact call_dictD pins s σ H _ us Q I rx ⟨a, ks, rfl, q1, fun p hp => end_dct h rm q2 hp⟩
      · split at h
        · rename_i us' e
          obtain ⟨a, vs, rfl, hl, hr⟩ := isLst_sq rm r e
          split at h
          · rename_i kvs e2
            obtain ⟨ps, ks, rfl, q2, q3⟩ := pairs2_v hr e2
            exact call_dictP hc pins s σ H _ us Q I rx ⟨a, ps, ks, rfl, hl, q2, fun p hp => end_dct h rm (DRel.merge q3 .nil) hp⟩
          · exact h.elim
        · exact h.elim
    · exact h.elim
/-! ### sets of pairs of ints -/
def tupW (ns : List Int) : W := .tup (ns.map .int)
theorem setOk_v : ∀ {us : List W} {vs : List V}, us.all (tupOk 2) = true → Reps K B H us vs → ∃ ks : List (Addr × List Int), vs = ks.map (fun p => V.ref p.1) ∧ us = ks.map (fun p => tupW p.2) ∧ ∀ p ∈ ks, SqT K H p.1 (p.2.map V.int) ∧ p.2.length = 2 ∧ TS.Bd SB p.2
  | [], _, _, .nil => ⟨[], rfl, rfl, fun p hp => by cases hp⟩
  | w :: us, _, h, .cons r1 r2 => by
    rw [List.all_cons, Bool.and_eq_true] at h
    obtain ⟨ns, e1, e2, e3⟩ := tupOk_of h.1
    obtain ⟨⟨t, q1, q2⟩, q3⟩ := tupI_v r1 e1
    subst q1
    obtain ⟨ks, h1, h2, h3⟩ := setOk_v h.2 r2
    refine ⟨(t, ns) :: ks, by rw [h1] <;> rfl, by rw [h2, q3] <;> rfl, fun p hp => ?_⟩
    rcases List.mem_cons.mp hp with rfl | hp
    · exact ⟨q2, e2, e3⟩
    · exact h3 p hp
theorem codeW_tupW (ns : List Int) : codeW (tupW ns) = TS.code SB ns := by
  have e : tupI (tupW ns) = some ns := by
    show intsW (ns.map .int) = some ns
    induction ns with
    | nil => rfl
    | cons n ns ih =>
      unfold intsW at ih ⊢
      simp only [List.map_cons, optL, intW, ih]
  exact codeW_tup e
theorem tupW_inj {ns ms : List Int} (h : tupW ns = tupW ms) : ns = ms := by
  injection h with h
  induction ns generalizing ms with
  | nil => cases ms with
    | nil => rfl
    | cons _ _ => cases h
  | cons n ns ih => cases ms with
    | nil => cases h
    | cons m ms =>
      injection h with h1 h2
      injection h1 with h1
      rw [h1, ih h2]
theorem dedup_sub : ∀ {l : List W} {x : W}, x ∈ dedupW l → x ∈ l
  | [], _, h => h
  | a :: r, x, h => by
    unfold dedupW at h
    split at h
    · exact List.mem_cons_of_mem _ (dedup_sub h)
    · rcases List.mem_cons.mp h with rfl | h
      · exact List.mem_cons_self
      · exact List.mem_cons_of_mem _ (dedup_sub h)
theorem dedup_all : ∀ {l : List W} {x : W}, x ∈ l → ∃ y ∈ dedupW l, codeW y = codeW x
  | [], _, h => by cases h
  | a :: r, x, h => by
    unfold dedupW
    split
    · rename_i q
      rcases List.mem_cons.mp h with rfl | h
      · obtain ⟨y, hy, e⟩ := List.any_eq_true.mp q
        exact ⟨y, hy, eq_of_beq e⟩
      · exact dedup_all h
    · rcases List.mem_cons.mp h with rfl | h
      · exact ⟨_, List.mem_cons_self, rfl⟩
      · obtain ⟨y, hy, e⟩ := dedup_all h
        exact ⟨y, List.mem_cons_of_mem _ hy, e⟩
theorem dedup_nd : ∀ l : List W, (dedupW l).Pairwise fun x y => codeW x ≠ codeW y
  | [] => .nil
  | a :: r => by
    unfold dedupW
    split
    · exact dedup_nd r
    · rename_i q
      refine List.pairwise_cons.mpr ⟨fun y hy e => q ?_, dedup_nd r⟩
      exact List.any_eq_true.mpr ⟨y, hy, by rw [e]; exact beq_self_eq_true _⟩
/-- the set's members, by either way -/
theorem dedup_perm {ks L : List (Addr × List Int)} (hk : ∀ p ∈ ks, p.2.length = 2 ∧ TS.Bd SB p.2) (h1 : ∀ p ∈ L, p ∈ ks) (h2 : ∀ p ∈ ks, p.2 ∈ L.map (·.2)) (h3 : (L.map (·.2)).Nodup) : (L.map fun p => tupW p.2).Perm (dedupW (ks.map fun p => tupW p.2)) := by
  have n1 : (L.map fun p => tupW p.2).Nodup := by
    have e : (L.map fun p => tupW p.2) = (L.map (·.2)).map tupW := by rw [List.map_map] <;> rfl
    rw [e]
    exact List.Pairwise.map _ (fun a b hab e => hab (tupW_inj e)) h3
  have n2 : (dedupW (ks.map fun p => tupW p.2)).Nodup := List.Pairwise.imp (fun {a b} hab e => hab (by rw [e])) (dedup_nd _)
  refine (List.perm_ext_iff_of_nodup n1 n2).mpr fun x => ⟨fun hx => ?_, fun hx => ?_⟩
  · obtain ⟨p, hp, rfl⟩ := List.mem_map.mp hx
    obtain ⟨y, hy, e⟩ := dedup_all (List.mem_map.mpr ⟨p, h1 p hp, rfl⟩ : tupW p.2 ∈ ks.map fun p => tupW p.2)
    obtain ⟨q, hq, rfl⟩ := List.mem_map.mp (dedup_sub hy)
    rw [codeW_tupW, codeW_tupW] at e
    have z := code2_inj (hk q hq).1 (hk p (h1 p hp)).1 (hk q hq).2 (hk p (h1 p hp)).2 e
    rw [← z]
    exact hy
  · obtain ⟨p, hp, rfl⟩ := List.mem_map.mp (dedup_sub hx)
    obtain ⟨q, hq, e⟩ := List.mem_map.mp (h2 p hp)
    exact List.mem_map.mpr ⟨q, hq, by rw [e]⟩

/-! ### methods -/
/-- a built-in's method, by the type that the receiver has then -/
structure MB (X : Cx) (T : String) (name : Str) (id : String) (r : V → List V → Hp → VK → Prop) : Prop where
  pa : PlainAttrs T
  slot : Slot T name id
  hty : typeOf (.builtin id) = pure (.type "method_descriptor")
  hm : MtR X id r
/-- of that type, and without a dict -/
def TyS (X : Cx) (T : String) (x : V) (H : Hp) : Prop := ∀ (pins : List (Addr × Obj)) (s : Shared) (σ : L2.St) (v : Value), Inv X pins σ H s → RelV x v → s.TypeIs v T ∧ ∀ a, v = .ref a → ∃ ob, s.heap.get? a = some ob ∧ ob.dict = none
theorem TyS.of {T : String} {x : V} (h : tyV X.K T x H) : TyS X T x H := fun _ _ _ _ I r => tyV_is I r h
def tBMW (X : Cx) (name : Str) (to : TE) (t : TA) : TE := fun σ H Q => to σ H fun x H1 => ∃ T id r, MB X T name id r ∧ TyS X T x H1 ∧ t σ H1 fun xs H2 => r x xs H2 Q
variable {o e : Expr} {es : List Expr} {to : TE} {t : TA} {name : Str} {apos cpos : Pos}
theorem pe_bm0W (ho : PE X o to) (hbase : attributeBase o name X.env (eval o X.env) = eval o X.env) (hline : (apos.endLine == cpos.line) = true) :
    PE X (.Call (.Attribute o name apos) [] [] cpos) (fun σ H Q => to σ H fun x H1 => ∃ T id r, MB X T name id r ∧ TyS X T x H1 ∧ r x [] H1 Q) := by
  refine ⟨fun pins s σ H Q I h => ?_⟩
  refine wpAny_Call_method0_late hbase hline (thn (ho.run pins s σ H _ I h) fun v s1 ⟨x, H1, I1, r1, T, id, r, mb, ty, q1⟩ => ?_)
  obtain ⟨h1, h2⟩ := ty pins s1 σ v I1 r1
  exact ⟨T, id, mb.pa, mb.slot, mb.hty, h1, h2, Calls.callWith_builtin rfl (PySem.evalArgs_none (mb.hm pins s1 σ H1 x [] v [] Q I1 r1 .nil q1))⟩
theorem pe_bmW (ho : PE X o to) (ha : PA X (e :: es) t) (hbase : attributeBase o name X.env (eval o X.env) = eval o X.env)
    (hfew : ((backTo cpos (starEach (e :: es) X.env)).all (fun x => !x.1) && (backToKw cpos (keywordEach [] X.env)).all (fun x => x.1.isSome)
      && decide ((e :: es).length + ([] : List Keyword).length + (if ([] : List Keyword).isEmpty then 0 else 1) < 30)) = true)
    (hline : (apos.endLine == cpos.line) = true) (hs : starEach (e :: es) X.env = (false, eval e X.env) :: starEach es X.env) (hplain : (backTo cpos (starEach es X.env)).any (·.1) = false) :
    PE X (.Call (.Attribute o name apos) (e :: es) [] cpos) (tBMW X name to t) := by
  refine ⟨fun pins s σ H Q I h => ?_⟩
  refine wpAny_Call_method_late hbase hfew hline rfl (thn (ho.run pins s σ H _ I h) fun v s1 ⟨x, H1, I1, r1, T, id, r, mb, ty, q1⟩ => ?_)
  obtain ⟨h1, h2⟩ := ty pins s1 σ v I1 r1
  refine ⟨T, id, mb.pa, mb.slot, mb.hty, h1, h2, ?_⟩
  have hA := ha.run cpos pins s1 σ H1 _ I1 q1
  rw [hs] at hA ⊢
  refine Calls.callWith_builtin (by show (false || (backTo cpos (starEach es X.env)).any (·.1)) = false; rw [hplain] <;> rfl) (Calls.evalArgs_plain ?_)
  exact thn hA fun us s2 ⟨vs, H2, I2, r2, q2⟩ => mb.hm pins s2 σ H2 x vs v us Q I2 r1 r2 q2

def bmN : Bm → Str
  | .append => "append" | .extend => "extend" | .popL => "pop" | .popAt => "pop" | .join => "join" | .index => "index" | .reverse => "reverse" | .clear => "clear" | .remove => "remove"
theorem mt_appendW : MtR X "list.append" (RMW N X.K E (bmW .append)) := by
  rintro pins s σ H x xs v us Q I rx rxs ⟨B, m, w, ws, rm, r, rs, h⟩
  simp only [bmW] at h
  split at h
  · cases r with
    | obj hk =>
      obtain ⟨y, rfl, ry⟩ := rs.one
      split at h
      · rename_i l e
        split at h
        · rename_i hz
          obtain ⟨vs, h1, h2⟩ := rm.lst hk e
          refine mt_append pins s σ H _ _ v us Q I rx rxs ⟨_, vs, y, rfl, rfl, h1, by rw [h2.length, ← SL_eq]; exact hz, ?_⟩
          exact end_set h rm (nlk (by assumption)) hk ⟨_, upd_same, Reps.append (Reps.grow (grow_upd (by rw [h1]; intro _ z; cases z) (by rw [h1]; intro _ _ z; cases z)) _ _ h2) (.cons (Rep.grow (grow_upd (by rw [h1]; intro _ z; cases z) (by rw [h1]; intro _ _ z; cases z)) _ _ ry) .nil)⟩ fun _ _ => .non
        · exact h.elim
      · exact h.elim
  · exact h.elim
theorem grow_lst {a : Addr} {vs : List V} {u : HO} (h : H a = some (.lst vs)) : Grow B B H (upd H a u) := grow_upd (by rw [h]; intro _ z; cases z) (by rw [h]; intro _ _ z; cases z)
theorem mt_extendW : MtR X "list.extend" (RMW N X.K E (bmW .extend)) := by
  rintro pins s σ H x xs v us Q I rx rxs ⟨B, m, w, ws, rm, r, rs, h⟩
  simp only [bmW] at h
  split at h
  · cases r with
    | obj hk =>
      obtain ⟨y, rfl, ry⟩ := rs.one
      cases ry with
      | obj hj =>
        split at h
        · rename_i l1 l2 e1 e2
          split at h
          · rename_i hz
            obtain ⟨vs, h1, h2⟩ := rm.lst hk e1
            obtain ⟨zs, h3, h4⟩ := rm.lst hj e2
            refine mt_extend pins s σ H _ _ v us Q I rx rxs ⟨_, _, vs, zs, rfl, rfl, h1, h3, by rw [h2.length, h4.length, ← SL_eq]; exact hz, ?_⟩
            exact end_set h rm (nlk (by assumption)) hk ⟨_, upd_same, (Reps.grow (grow_lst h1) _ _ h2).append (Reps.grow (grow_lst h1) _ _ h4)⟩ fun _ _ => .non
          · exact h.elim
        · exact h.elim
  · exact h.elim
theorem mt_popLW : MtR X "list.pop" (RMW N X.K E (bmW .popL)) := by
  rintro pins s σ H x xs v us Q I rx rxs ⟨B, m, w, ws, rm, r, rs, h⟩
  simp only [bmW] at h
  split at h
  · cases r with
    | obj hk =>
      obtain rfl := rs.zero
      split at h
      · rename_i l e
        split at h
        · rename_i z ez
          obtain ⟨vs, h1, h2⟩ := rm.lst hk e
          obtain ⟨y, hy, ry⟩ := h2.get ez
          refine mt_pop pins s σ H _ _ v us Q I rx rxs ⟨_, vs, y, rfl, rfl, h1, by rw [h2.length]; exact hy, ?_⟩
          exact end_set h rm (nlk (by assumption)) hk ⟨_, upd_same, (Reps.grow (grow_lst h1) _ _ h2).dropLast⟩ fun _ g => Rep.grow g _ _ ry
        · exact h.elim
      · exact h.elim
  · exact h.elim
theorem mt_popAtW : MtR X "list.pop" (RMW N X.K E (bmW .popAt)) := by
  rintro pins s σ H x xs v us Q I rx rxs ⟨B, m, w, ws, rm, r, rs, h⟩
  simp only [bmW] at h
  split at h
  · cases r with
    | obj hk =>
      obtain ⟨y, rfl, ry⟩ := rs.one
      cases ry
      split at h
      · rename_i l e
        split at h
        · rename_i j ej
          split at h
          · rename_i z ez
            split at h
            · rename_i hz
              obtain ⟨vs, h1, h2⟩ := rm.lst hk e
              obtain ⟨y, hy, ry⟩ := h2.get ez
              have hj : seqIndex? _ vs.length = some j := (ixN_seq (by rw [h2.length]; exact ej)).1
              refine mt_popAt pins s σ H _ _ v us Q I rx rxs ⟨_, vs, _, j, y, rfl, rfl, h1, hz.1, hz.2, hj, hy, ?_⟩
              exact end_set h rm (nlk (by assumption)) hk ⟨_, upd_same, (Reps.grow (grow_lst h1) _ _ h2).eraseIdx j⟩ fun _ g => Rep.grow g _ _ ry
            · exact h.elim
          · exact h.elim
        · exact h.elim
      · exact h.elim
  · exact h.elim
def eqs (k : Str) (v : Value) : Bool := match v with
  | .str y _ => y.cps.toList == k.cps.toList
  | _ => false
theorem eqs_at {xs : List Tx} {its : List Value} (r : Vals ((xs.map sx).map V.str) its) : its.length = xs.length ∧ ∀ (i : Nat) (h : i < its.length) (g : i < xs.length), ∃ t, its[i] = .str (sx xs[i]) t := by
  induction xs generalizing its with
  | nil =>
    cases r
    exact ⟨rfl, fun i h => by simp at h⟩
  | cons x xs ih =>
    cases r with
    | cons r1 r2 =>
      obtain ⟨h1, h2⟩ := ih r2
      refine ⟨by simp [h1], fun i h g => ?_⟩
      cases i with
      | zero => exact r1
      | succ i => exact h2 i (by simpa using h) (by simpa using g)
theorem eqs_sx {a b : Tx} : ((sx a).cps.toList == (sx b).cps.toList) = decide (a = b) := by
  by_cases h : a = b
  · subst h; simp
  · rw [decide_eq_false h]
    refine beq_eq_false_iff_ne.mpr fun e => h ?_
    refine sx_inj ?_
    cases ha : sx a with
    | mk ca => cases hb : sx b with
      | mk cb =>
        rw [ha, hb] at e
        have : ca = cb := by cases ca; cases cb; simpa using e
        rw [this]
theorem mt_removeW : MtR X "list.remove" (RMW N X.K E (bmW .remove)) := by
  rintro pins s σ H x xs v us Q I rx rxs ⟨B, m, w, ws, rm, r, rs, h⟩
  simp only [bmW] at h
  split at h
  · rename_i k0 x0
    cases r with
    | obj hk =>
      obtain ⟨y, rfl, ry⟩ := rs.one
      cases ry
      split at h
      · rename_i l e
        split at h
        · rename_i ts et
          split at h
          · rename_i j ej
            obtain ⟨vs, h1, h2⟩ := rm.lst hk e
            have ev := strL_v h2 et
            subst ev
            cases rx
            obtain ⟨u, rfl, ru⟩ := rxs.one
            obtain ⟨t, rfl⟩ := ru
            obtain ⟨z, its, n, r, hl, e'⟩ := I.lstM h1
            obtain ⟨q1, q2⟩ := eqs_at r
            obtain ⟨hj, hp, hno⟩ := List.findIdx?_eq_some_iff_getElem.mp ej
            have hjl : j < its.toArray.size := by rw [List.size_toArray]; omega
            have hz : its.length ≤ sizeLine := by rw [← hl]; exact z
            refine call_meets PySem.F.slot_list_remove ⟨_, e', rfl⟩ PySem.F.entry_list_remove (PySem.F.args_list_remove_2 _ _)
              (MeetsSeq.list_remove _ its.toArray n (.str _ t) (eqs (sx x0)) (fun y hy => ?_) j hjl ?_ ?_ (by rw [List.size_toArray]; exact hz)) ⟨e', ?_⟩
            · obtain ⟨i, hi, ei⟩ := List.getElem_of_mem (by simpa using hy : y ∈ its)
              obtain ⟨t', et'⟩ := q2 i hi (by omega)
              rw [← ei, et']
              exact PySem.SeqRoads2.EqGives.str _ _ _ _
            · obtain ⟨t', et'⟩ := q2 j (by omega) hj
              have e1 : its.toArray[j] = .str (sx ts[j]) t' := by simpa using et'
              rw [e1]
              show ((sx ts[j]).cps.toList == (sx x0).cps.toList) = true
              rw [eqs_sx]
              exact hp
            · intro i hm hmj
              have hi : i < its.length := by simpa using hm
              obtain ⟨t', et'⟩ := q2 i hi (by omega)
              have e1 : its.toArray[i] = .str (sx (ts[i]'(by omega))) t' := by simpa using et'
              rw [e1]
              show ((sx (ts[i]'(by omega))).cps.toList == (sx x0).cps.toList) = false
              rw [eqs_sx]
              simpa using hno i hmj
            · have rr := r.eraseIdx j
              refine ⟨.non, _, I.lset (its' := its.eraseIdx j) (t' := s.toks) h1 e' ?_ rr ?_, rfl, ?_⟩
              · show its.toArray.eraseIdxIfInBounds j = (its.eraseIdx j).toArray
                rw [List.eraseIdxIfInBounds_toArray]
              · have := List.length_eraseIdx_le (l := (ts.map sx).map V.str) (i := j)
                omega
              · exact end_set h rm (nlk (by assumption)) hk ⟨_, upd_same, (Reps.grow (grow_lst h1) _ _ h2).eraseIdx j⟩ fun _ g => .non
          · exact h.elim
        · exact h.elim
      · exact h.elim
  · exact h.elim
theorem mt_reverseW : MtR X "list.reverse" (RMW N X.K E (bmW .reverse)) := by
  rintro pins s σ H x xs v us Q I rx rxs ⟨B, m, w, ws, rm, r, rs, h⟩
  simp only [bmW] at h
  split at h
  · cases r with
    | obj hk =>
      obtain rfl := rs.zero
      split at h
      · rename_i l e
        obtain ⟨vs, h1, h2⟩ := rm.lst hk e
        refine mt_reverse pins s σ H _ _ v us Q I rx rxs ⟨_, vs, rfl, rfl, h1, ?_⟩
        exact end_set h rm (nlk (by assumption)) hk ⟨_, upd_same, (Reps.grow (grow_lst h1) _ _ h2).reverse⟩ fun _ _ => .non
      · exact h.elim
  · exact h.elim
theorem mt_clearW : MtR X "list.clear" (RMW N X.K E (bmW .clear)) := by
  rintro pins s σ H x xs v us Q I rx rxs ⟨B, m, w, ws, rm, r, rs, h⟩
  simp only [bmW] at h
  split at h
  · cases r with
    | obj hk =>
      obtain rfl := rs.zero
      split at h
      · rename_i l e
        obtain ⟨vs, h1, h2⟩ := rm.lst hk e
        refine mt_clear pins s σ H _ _ v us Q I rx rxs ⟨_, vs, rfl, rfl, h1, ?_⟩
        exact end_set h rm (nlk (by assumption)) hk ⟨_, upd_same, .nil⟩ fun _ _ => .non
      · exact h.elim
  · exact h.elim
theorem mt_joinW : MtR X "str.join" (RMW N X.K E (bmW .join)) := by
  rintro pins s σ H x xs v us Q I rx rxs ⟨B, m, w, ws, rm, r, rs, h⟩
  simp only [bmW] at h
  split at h
  · cases r with
    | str t =>
      obtain ⟨y, rfl, ry⟩ := rs.one
      split at h
      · rename_i l e
        split at h
        · rename_i ts et
          split at h
          · rename_i hz
            obtain ⟨a, vs, rfl, hl, hr⟩ := seqW_sq rm ry e
            have ev := strL_v hr et
            subst ev
            refine mt_join pins s σ H _ _ v us Q I rx rxs ⟨_, a, ts.map sx, rfl, rfl, hl.imp (·.1) (·.1), ?_, ?_⟩
            · rw [List.map_map, List.length_map, sx_length]
              have e2 : (Str.length ∘ sx) = (List.length : Tx → Nat) := by funext z; exact sx_length z
              show (ts.map (Str.length ∘ sx)).sum + _ ≤ _
              rw [e2]
              exact hz
            · rw [join_sx]
              exact end_w h rm (.str _)
          · exact h.elim
        · exact h.elim
      · exact h.elim
  · exact h.elim
theorem mt_indexSW : MtR X "str.index" (RMW N X.K E (bmW .index)) := by
  rintro pins s σ H x xs v us Q I rx rxs ⟨B, m, w, ws, rm, r, rs, h⟩
  simp only [bmW] at h
  split at h
  · cases r with
    | str t =>
      obtain ⟨y, rfl, ry⟩ := rs.one
      cases ry
      obtain ⟨z, e0, h⟩ := Post.ofO h
      obtain ⟨n, e, rfl⟩ := map_some e0
      unfold indexT at e
      obtain ⟨tl, e2⟩ := List.head?_eq_some_iff.mp e
      exact mt_sindex pins s σ H _ _ v us Q I rx rxs ⟨_, _, n, tl, rfl, rfl, e2, end_w h rm (.int _)⟩
  · exact h.elim
end
end Mi
end

section
set_option Elab.async false
set_option linter.all false
set_option maxRecDepth 100000
set_option maxHeartbeats 4000000
/-! MiF: the look that a core tree is the tree of the text; what is known of the text. -/
namespace Mi
open PySem PySem.Spec PyProof.Rows L2

/-- a def: where it stands, its parameters, its slots -/
structure FnD where
  d : He.DefD
  ps : List Str
  S : List Str
  /-- all its parameters may be written by place -/
  pl : Bool := true
  /-- its keyword-only defaults -/
  kwW : List W := []
/-- a call with keywords: of which def, so many by place, the keywords' names, where each parameter's value comes from -/
structure Shp where
  f : Nat
  n : Nat
  ks : List Str
  pm : List Pk
structure Dat where
  N : Nms
  T : Tab
  D : List (Nat × FnD)
  KS : List Shp := []
def wEq : W → W → Bool
  | .non, .non => true
  | .bl a, .bl b => a == b
  | .int i, .int j => decide (i = j)
  | .str x, .str y => decide (x = y)
  | .tup [], .tup [] => true
  | _, _ => false
theorem wEq_eq {a b : W} (h : wEq a b = true) : a = b := by
  unfold wEq at h
  split at h
  · rfl
  · rw [eq_of_beq h]
  · rw [of_decide_eq_true h]
  · rw [of_decide_eq_true h]
  · rfl
  · cases h
def pkEq : List Pk → List Pk → Bool
  | [], [] => true
  | .a i :: l, .a j :: r => i == j && pkEq l r
  | .d i w :: l, .d j u :: r => i == j && wEq w u && pkEq l r
  | _, _ => false
theorem pkEq_eq : ∀ {l r : List Pk}, pkEq l r = true → l = r
  | [], [], _ => rfl
  | .a i :: l, .a j :: r, h => by
    simp only [pkEq, Bool.and_eq_true] at h
    rw [eq_of_beq h.1, pkEq_eq h.2]
  | .d i w :: l, .d j u :: r, h => by
    simp only [pkEq, Bool.and_eq_true] at h
    rw [eq_of_beq h.1.1, wEq_eq h.1.2, pkEq_eq h.2]
  | [], .a _ :: _, h => by simp [pkEq] at h
  | [], .d _ _ :: _, h => by simp [pkEq] at h
  | .a _ :: _, [], h => by simp [pkEq] at h
  | .d _ _ :: _, [], h => by simp [pkEq] at h
  | .a _ :: _, .d _ _ :: _, h => by simp [pkEq] at h
  | .d _ _ :: _, .a _ :: _, h => by simp [pkEq] at h
def hasK (G : Dat) (f n : Nat) (ks : List Str) (pm : List Pk) : Bool := G.KS.any fun s => (s.f == f && s.n == n) && (decide (s.ks = ks) && pkEq s.pm pm)
theorem hasK_mem {G : Dat} {f n : Nat} {ks : List Str} {pm : List Pk} (h : hasK G f n ks pm = true) : (⟨f, n, ks, pm⟩ : Shp) ∈ G.KS := by
  obtain ⟨s, hs, h⟩ := List.any_eq_true.mp h
  simp only [Bool.and_eq_true, decide_eq_true_eq] at h
  obtain ⟨⟨h1, h2⟩, h3, h4⟩ := h
  have e1 := eq_of_beq h1
  have e2 := eq_of_beq h2
  have e4 := pkEq_eq h4
  cases s
  dsimp only at e1 e2 h3 e4
  subst e1 e2 h3 e4
  exact hs
/-- of the methods of a name -/
def hasM (G : Dat) (m n : Nat) (ks : List Str) (pm : List Pk) : Bool := G.T.cls.all fun p => match p.2.meths.lookup m with
  | some f => hasK G f n ks pm
  | none => true
def hasC (G : Dat) (c n : Nat) (ks : List Str) (pm : List Pk) : Bool := match G.T.cl c with
  | some D => hasK G D.init n ks pm
  | none => true
def kwNs (kws : List Keyword) : List Str := kws.filterMap (·.arg)
def Dat.df (G : Dat) (f : Nat) : Option FnD := G.D.lookup f
/-- a body's scope: the slots' names, the names' kinds, what a block may store -/
structure Sco where
  S : List Str
  sc : Scope
  fn : Str → Bool

def visB (C : Sco) (x : Str) : Bool := match C.sc.names.lookup x with
  | some .local => true
  | some .cell => true
  | some .free => true
  | _ => false
def gloB (C : Sco) (x : Str) : Bool := match C.sc.names.lookup x with
  | some .globalImplicit => true
  | _ => false
def locB (C : Sco) (x : Str) : Bool := match C.sc.names.lookup x with
  | some .local => true
  | _ => false
def stoB (C : Sco) (x : Str) : Bool := match C.sc.names.lookup x with
  | some .local => true
  | some .cell => C.fn x
  | _ => false
def nm1 (x : Str) : Bool := !(x == ("__debug__" : Str)) && !(x == ("__classdict__" : Str))
def slotB (C : Sco) (i : Nat) (x : Str) : Bool := decide (C.S[i]? = some x)
def bltN : Blt → Str
  | .len => "len" | .int1 => "int" | .all => "all" | .any => "any" | .min2 => "min" | .max2 => "max" | .list => "list" | .tuple => "tuple" | .sorted => "sorted" | .dict1 => "dict"
def kdN (N : Nms) : Kd → Option Str
  | .str => some "str" | .int => some "int" | .bool => some "bool" | .tuple => some "tuple" | .list => some "list" | .dict => some "dict" | .cls c => N.cl c
/-- not a call of super -/
def noSup : Expr → Bool
  | .Call (.Name _ _) [] [] _ => false
  | _ => true
/-- not a slice -/
def noSl : Expr → Bool
  | .Slice _ _ none _ => false
  | _ => true
def noComp : Expr → Bool
  | .ListComp .. => false
  | .SetComp .. => false
  | .DictComp .. => false
  | _ => true
def noSet : Expr → Bool
  | .Set .. => false
  | _ => true
def noStar : Expr → Bool
  | .Starred .. => false
  | _ => true
mutual
def CT.sl : CT → List Nat
  | .nm i => [i]
  | .tp l => l.sl
def CTL.sl : CTL → List Nat
  | .nil => []
  | .cons t l => t.sl ++ l.sl
end
mutual
def chkT (C : Sco) : CT → Expr → Bool
  | .nm i, e => match e with
    | .Name x _ => slotB C i x && stoB C x
    | _ => false
  | .tp l, e => match e with
    | .Tuple es _ _ => chkTL C l es
    | _ => false
def chkTL (C : Sco) : CTL → List Expr → Bool
  | .nil, es => es.isEmpty
  | .cons t l, es => match es with
    | e :: r => chkT C t e && chkTL C l r
    | [] => false
end
/-- the scope of a comprehension's block -/
def Sco.blk (C : Sco) (scope : Scope) : Sco := ⟨C.S, relS scope C.sc, fun x => scope.names.lookup x == some .cell⟩
def ownP (C : Sco) (own : List Nat) : List (Str × Nat) := own.map fun i => (C.S.getD i "", i)
/-- the arities of the methods of a name, of a class's __init__ -/
def arF (G : Dat) (j f : Nat) : Bool := match G.df f with
  | some F => F.pl && decide (F.ps.length = j)
  | none => true
def arM (G : Dat) (n j : Nat) : Bool := G.T.cls.all fun p => match p.2.meths.lookup n with
  | some f => arF G j f
  | none => true
def arC (G : Dat) (c j : Nat) : Bool := match G.T.cl c with
  | some D => arF G j D.init
  | none => true
def fnK (C : Sco) : Bool := match C.sc.kind with
  | .function => true
  | _ => false
/-- no plain local -/
def noLoc (C : Sco) : Expr → Bool
  | .Name x _ => !locB C x
  | .Tuple .. => true
  | .Attribute .. => true
  | .Subscript .. => true
  | _ => false
/-- a tuple value ahead of targets that are no two or three plain names -/
def swN (C : Sco) (ts vs : List Expr) : Bool := !(ts.length == 2 || ts.length == 3) || vs.length != ts.length || ts.any (noLoc C)
/-- a comprehension that a local's store takes over -/
def setLcB (C : Sco) (x : Str) (py : Pos) (e : Expr) : Bool := match e with
  | .ListComp _ _ scope p => fnK C && locB C x && (py.line == p.line) && !(scope.names.any fun (n, k) => n == x && (k == .local || k == .cell))
  | _ => false
def CE.noLk : CE → Bool
  | .lk _ _ => false
  | _ => true
def dbg (x : Str) : Bool := !(x == ("__debug__" : Str))
section
variable (G : Dat)
mutual
def chkE : Sco → CE → Expr → Bool
  | C, .var i, e => match e with
    | .Name x _ => slotB C i x && visB C x && nm1 x
    | _ => false
  | _, .non, e => match e with
    | .Constant .none _ _ => true
    | _ => false
  | _, .bl b, e => match e with
    | .Constant (.bool c) _ _ => b == c
    | _ => false
  | _, .int i, e => match e with
    | .Constant (.int j) _ _ => decide (i = j)
    | _ => false
  | _, .str x, e => match e with
    | .Constant (.str y) _ _ => decide (y = sx x)
    | _ => false
  | C, .glo g, e => match e with
    | .Name x _ => decide (G.N.gl g = some x) && gloB C x && dbg x
    | _ => false
  | C, .bin o a b, e => match e with
    | .BinOp l p r _ => decide (p = bopE o) && chkE C a l && chkE C b r
    | _ => false
  | C, .neg a, e => match e with
    | .UnaryOp .USub l _ => chkE C a l
    | _ => false
  | C, .not a, e => match e with
    | .UnaryOp .Not l _ => chkE C a l
    | _ => false
  | C, .cmp o a b, e => match e with
    | .Compare l [p] [r] _ => decide (p = copE o) && noSet r && chkE C a l && chkE C b r
    | _ => false
  | C, .chain o p a b c, e => match e with
    | .Compare l [p1, p2] [r1, r2] _ => decide (p1 = copE o) && decide (p2 = copE p) && noSet r2 && chkE C a l && chkE C b r1 && chkE C c r2
    | _ => false
  | C, .and a b, e => match e with
    | .BoolOp .And (x :: y :: r) pos => chkE C a x && (match r with
      | [] => chkE C b y
      | _ :: _ => chkE C b (.BoolOp .And (y :: r) pos))
    | _ => false
  | C, .or a b, e => match e with
    | .BoolOp .Or (x :: y :: r) pos => chkE C a x && (match r with
      | [] => chkE C b y
      | _ :: _ => chkE C b (.BoolOp .Or (y :: r) pos))
    | _ => false
  | C, .ite c a b, e => match e with
    | .IfExp t x y _ => chkE C c t && chkE C a x && chkE C b y
    | _ => false
  | C, .tup l, e => match e with
    | .Tuple es _ _ => chkL C l es && decide (es.length ≤ 100)
    | _ => false
  | C, .lst l, e => match e with
    | .List es _ => chkL C l es && decide (es.length ≤ 100)
    | _ => false
  | C, .dct l, e => match e with
    | .Dict ks vs _ => decide (ks.length ≤ 15) && chkP C l ks vs
    | _ => false
  | C, .idx a b, e => match e with
    | .Subscript l r _ => noSl r && chkE C a l && chkE C b r
    | _ => false
  | C, .slc a lo hi, e => match e with
    | .Subscript l (.Slice p q none _) _ => chkE C a l && (match p with
        | none => lo.isN
        | some x => !lo.isN && chkE C lo x) && (match q with
        | none => hi.isN
        | some x => !hi.isN && chkE C hi x)
    | _ => false
  | C, .fld a f, e => match e with
    | .Attribute l y _ => decide (G.N.fld[f]? = some y) && noSup l && chkE C a l
    | _ => false
  | C, .call f l, e => match e with
    | .Call (.Name x _) es [] _ => (match G.df f with
      | some F => decide (F.d.at_ = (x, none)) && gloB C x && dbg x && decide (es.length = F.ps.length) && chkL C l es && F.pl
      | none => false)
    | _ => false
  | C, .meth m r l, e => match e with
    | .Call (.Attribute o y ap) es [] cp => decide (G.N.mth[m]? = some y) && noSup o && (ap.endLine == cp.line) && decide (es.length < 25) && arM G m (es.length + 1) && chkE C r o && chkL C l es
    | _ => false
  | C, .make c l, e => match e with
    | .Call (.Name x _) es [] _ => decide (G.N.cl c = some x) && gloB C x && dbg x && arC G c (es.length + 1) && chkL C l es
    | _ => false
  | C, .callK f l kl pm, e => match e with
    | .Call (.Name x _) es kws _ => (match G.df f with
      | some F => decide (F.d.at_ = (x, none)) && gloB C x && dbg x && chkL C l es && chkK C kl kws && hasK G f es.length (kwNs kws) pm
      | none => false)
    | _ => false
  | C, .methK m r l kl pm, e => match e with
    | .Call (.Attribute o y ap) [] (kw :: kws) cp => decide (G.N.mth[m]? = some y) && noSup o && (ap.endLine == cp.line) && decide (kws.length < 20) && hasM G m 1 (kwNs (kw :: kws)) pm && chkE C r o && chkL C l [] && chkK C kl (kw :: kws)
    | _ => false
  | C, .makeK c l kl pm, e => match e with
    | .Call (.Name x _) es kws _ => decide (G.N.cl c = some x) && gloB C x && dbg x && hasC G c (es.length + 1) (kwNs kws) pm && chkL C l es && chkK C kl kws
    | _ => false
  | C, .blt b l, e => match e with
    | .Call (.Name x _) (e1 :: es) [] _ => decide (x = bltN b) && gloB C x && chkL C l (e1 :: es)
    | _ => false
  | C, .bm n r l, e => match e with
    | .Call (.Attribute o y ap) es [] cp => decide (y = bmN n) && noSup o && (ap.endLine == cp.line) && decide (es.length < 25) && chkE C r o && chkL C l es
    | _ => false
  | C, .isi a ks, e => match e with
    | .Call (.Name x _) [l, .Name y _] [] _ => (match ks with
      | [k] => decide (x = ("isinstance" : Str)) && gloB C x && decide (kdN G.N k = some y) && gloB C y && dbg y && chkE C a l
      | _ => false)
    | _ => false
  | C, .lk _ a, e => (match e with
    | .ListComp .. => true
    | .DictComp .. => true
    | _ => false) && chkE C a e
  | C, .isi2 a k1 k2, e => match e with
    | .Call (.Name x _) [l, .Tuple [.Name y _, .Name z _] _ _] [] _ => decide (x = ("isinstance" : Str)) && gloB C x && decide (kdN G.N k1 = some y) && gloB C y && dbg y && decide (kdN G.N k2 = some z) && gloB C z && dbg z && chkE C a l
    | _ => false
  | C, .lset a, e => match e with
    | .Call (.Name x _) [.Call (.Name y _) [l] [] _] [] _ => decide (x = ("len" : Str)) && gloB C x && decide (y = ("set" : Str)) && gloB C y && chkE C a l
    | _ => false
  | C, .sset a, e => match e with
    | .Call (.Name x _) [.Call (.Name y _) [l] [] _] [] _ => decide (x = ("sorted" : Str)) && gloB C x && decide (y = ("set" : Str)) && gloB C y && chkE C a l
    | _ => false
  | C, .dc own kx vx t it ifs, e => match e with
    | .DictComp x y [⟨tg, iter, cs, 0⟩] scope _ => blkC C.S C.sc scope (ownP C own) && t.sl.all (fun i => own.contains i) && chkI C it iter tg && chkT (C.blk scope) t tg && chkE (C.blk scope) kx x && chkE (C.blk scope) vx y && decide (cs.length ≤ 1) && chkL (C.blk scope) ifs cs
    | _ => false
  | C, .lc own elt t it ifs, e => match e with
    | .ListComp x [⟨tg, iter, cs, 0⟩] scope _ => blkC C.S C.sc scope (ownP C own) && t.sl.all (fun i => own.contains i) && chkI C it iter tg && chkT (C.blk scope) t tg && chkE (C.blk scope) elt x && decide (cs.length ≤ 1) && chkL (C.blk scope) ifs cs
    | _ => false
  | C, .lc2 own own2 elt t it t2 it2 ifs, e => match e with
    | .ListComp x [⟨tg, iter, [], 0⟩, ⟨tg2, iter2, cs, 0⟩] scope _ => blkC C.S C.sc scope (ownP C own) && t.sl.all (fun i => own.contains i) && t2.sl.all (fun i => own2.contains i) && own2.all (fun i => own.contains i) && chkI C it iter tg && chkT (C.blk scope) t tg &&
        chkI (C.blk scope) it2 iter2 tg2 && chkT (C.blk scope) t2 tg2 && chkE (C.blk scope) elt x && decide (cs.length ≤ 1) && chkL (C.blk scope) ifs cs
    | _ => false
def chkL : Sco → CL → List Expr → Bool
  | _, .nil, es => es.isEmpty
  | C, .cons a l, es => match es with
    | e :: r => chkE C a e && chkL C l r
    | [] => false
/-- the keywords' values -/
def chkK : Sco → CL → List Keyword → Bool
  | _, .nil, ks => ks.isEmpty
  | C, .cons a l, ks => match ks with
    | ⟨some _, e, _⟩ :: r => noStar e && chkE C a e && chkK C l r
    | _ => false
/-- a display's keys and values, by turns -/
def chkP : Sco → CL → List (Option Expr) → List Expr → Bool
  | _, .nil, ks, vs => ks.isEmpty && vs.isEmpty
  | _, .cons _ .nil, _, _ => false
  | C, .cons a (.cons b l), ks, vs => match ks, vs with
    | some k :: ks', v :: vs' => chkE C a k && chkE C b v && chkP C l ks' vs'
    | _, _ => false
/-- what is walked, for the target tg -/
def chkI : Sco → CI → Expr → Expr → Bool
  | C, .ex a, e, _ => noSet e && chkE C a e
  | C, .dk a, e, _ => noSet e && chkE C a e
  | C, .rng l, e, _ => match e with
    | .Call (.Name x _) es [] _ => decide (x = ("range" : Str)) && gloB C x && chkL C l es && (match es with
      | [_] => true
      | [_, _] => true
      | _ => false)
    | _ => false
  | C, .enm a, e, tg => match e, tg with
    | .Call (.Name x _) [l] [] _, .Tuple _ _ _ => decide (x = ("enumerate" : Str)) && gloB C x && chkE C a l
    | _, _ => false
  | C, .zip l, e, tg => match e, tg with
    | .Call (.Name x _) es [] _, .Tuple _ _ _ => decide (x = ("zip" : Str)) && gloB C x && chkL C l es && (match es with
      | [_, _] => true
      | _ => false)
    | _, _ => false
end
mutual
def chkS : Sco → CS → Stmt → Bool
  | _, .pass, s => match s with
    | .Pass _ => true
    | .Expr (.Constant (.str _) _ _) _ => true
    | _ => false
  | C, .expr a, s => match s with
    | .Expr e _ => noComp e && chkE G C a e
    | _ => false
  | C, .ret a, s => match s with
    | .Return (some e) _ => chkE G C a e
    | _ => false
  | _, .retN, s => match s with
    | .Return none _ => true
    | _ => false
  | C, .set i a, s => match s with
    | .Assign [.Name x py] e pos => slotB C i x && stoB C x && chkE G C a e && (noComp e || (setLcB C x py e && a.noLk))
    | _ => false
  | C, .unp t a, s => match s with
    | .Assign [.Tuple es k p] e _ => chkTL C t es && noComp e && (match e with | .Tuple vs _ _ => swN C es vs | _ => true) && chkE G C a e
    | _ => false
  | C, .par i j a b, s => match s with
    | .Assign [.Tuple [.Name x px, .Name y py] _ _] (.Tuple [u, v] _ _) _ => fnK C && slotB C i x && slotB C j y && decide (i ≠ j) && decide (x ≠ y) && locB C x && locB C y && (py.line == px.line) && !(foldedForSure 8 u && foldedForSure 8 v) && !(constantsAlone 8 u && constantsAlone 8 v) && chkE G C a u && chkE G C b v
    | _ => false
  | C, .sub o i a, s => match s with
    | .Assign [.Subscript x y _] e _ => noSl y && chkE G C a e && chkE G C o x && chkE G C i y
    | _ => false
  | C, .fld o f a, s => match s with
    | .Assign [.Attribute x y _] e _ => decide (G.N.fld[f]? = some y) && chkE G C a e && chkE G C o x
    | _ => false
  | C, .aug i a, s => match s with
    | .AugAssign (.Name x _) .Add e _ => slotB C i x && stoB C x && chkE G C a e
    | _ => false
  | C, .iff c a b, s => match s with
    | .If t x y _ => chkE G C c t && chkB C a x && chkB C b y
    | _ => false
  | C, .whl c b, s => match s with
    | .While t x [] _ => chkE G C c t && chkB C b x
    | _ => false
  | C, .for t it b, s => match s with
    | .For tg iter x [] _ => chkT C t tg && noSet iter && chkI G C it iter tg && chkB C b x
    | _ => false
  | _, .nvr, _ => true
  | C, .lk _ s, st => chkS C s st
  | _, .rse _ _, _ => false
def chkB : Sco → CB → List Stmt → Bool
  | _, .nil, ss => ss.isEmpty
  | C, .cons s b, ss => match ss with
    | x :: r => chkS C s x && chkB C b r
    | [] => false
end
end
end Mi
end

section
set_option Elab.async false
set_option linter.all false
set_option maxRecDepth 100000
set_option maxHeartbeats 4000000
/-! MiG: what is known of the text; small facts about trees; the expressions, case by case. -/
namespace Mi
open PySem PySem.Spec PyProof.Rows L2

/-! ### small facts about trees -/
theorem star_cons {e : Expr} {es : List Expr} {env : PySem.Env} (h : noStar e = true) : starEach (e :: es) env = (false, eval e env) :: starEach es env := by
  cases e <;> first | rfl | cases h
theorem asg_cons {e : Expr} {es : List Expr} {env : PySem.Env} (h : noStar e = true) : assignEach (e :: es) env = (false, assign e env) :: assignEach es env := by
  cases e <;> first | rfl | cases h
theorem noSup_base {o : Expr} {f : Str} {env : PySem.Env} {t : Sem Value} (h : noSup o = true) : attributeBase o f env t = t := by
  cases o with
  | Call g as ks p =>
    cases g with
    | Name id p2 =>
      cases as with
      | nil =>
        cases ks with
        | nil => cases h
        | cons _ _ => rfl
      | cons _ _ => rfl
    | _ => rfl
  | _ => rfl
theorem noSl_ix {b : Expr} (h : noSl b = true) : PlainIx b := by
  intro o i
  cases b with
  | Slice l u s p =>
    cases s with
    | none => cases h
    | some _ => rfl
  | _ => rfl
theorem noComp_sw {e : Expr} {t : Option Expr} {l : Nat} {env : PySem.Env} (h : noComp e = true) : swapsWith e t l env = pure false := by
  cases e <;> first | rfl | cases h
theorem noSet_it {e : Expr} {env : PySem.Env} (h : noSet e = true) : ∀ x, foldedSetIterable e env x = pure x := by
  intro x
  cases e <;> first | rfl | cases h
theorem noSet_bm {e : Expr} {op : CmpOp} (h : noSet e = true) : behindInMarks op e = false := by
  cases e <;> first | rfl | cases h
theorem noSet_lm {e f : Expr} {op op' : CmpOp} (h : noSet e = true) : lastMarks [op', op] [f, e] = false := by
  show lastMarks [op] [e] = false
  exact noSet_bm h
theorem stars {env : PySem.Env} {pos : Pos} : ∀ {es : List Expr}, (∀ e ∈ es, noStar e = true) → (backTo pos (starEach es env)).any (·.1) = false ∧ (backTo pos (starEach es env)).all (fun x => !x.1) = true
  | [], _ => ⟨rfl, rfl⟩
  | e :: es, h => by
    obtain ⟨h1, h2⟩ := stars (env := env) (pos := pos) (es := es) fun x hx => h x (List.mem_cons_of_mem _ hx)
    rw [star_cons (h e List.mem_cons_self)]
    exact ⟨by show (false || (backTo pos (starEach es env)).any (·.1)) = false; rw [h1]; rfl, by show (!false && (backTo pos (starEach es env)).all (fun x => !x.1)) = true; rw [h2]; rfl⟩
theorem asgs {env : PySem.Env} : ∀ {es : List Expr}, (∀ e ∈ es, noStar e = true) → (assignEach es env).length = es.length ∧ (assignEach es env).findIdx? (·.1) = none
  | [], _ => ⟨rfl, rfl⟩
  | e :: es, h => by
    obtain ⟨h1, h2⟩ := asgs (env := env) (es := es) fun x hx => h x (List.mem_cons_of_mem _ hx)
    rw [asg_cons (h e List.mem_cons_self)]
    exact ⟨by simp [h1], by simp [List.findIdx?_cons, h2]⟩

/-! ### what is known of the text -/
/-- a def's promise: what the caller hands back -/
def spF (N : Nms) (K : PySem.W.Frag) (cl : Caller) (f n : Nat) : Sp := fun vs H Q E => ∃ B m ws, RelM N K B m H ∧ Reps K B H ws vs ∧ ws.length = n ∧ Post N K E (RW K) B H (cl f ws m) Q
structure InsTy (K : PySem.W.Frag) (C : Addr) : Prop where
  ha : PySem.W.findIn K (.ref C) "__class__" = some (some (.builtin "object.__class__"))
  hn : PySem.W.specialIn K (.builtin "object.__class__") "__get__" = some (some (.builtin "getset_descriptor.__get__"))
  htk : PySem.W.takesIn K (.builtin "object.__class__") = some true
  hm : PySem.W.mroIn K C (.type "object") = some true
def bltNames : List Str := ["len", "int", "all", "any", "min", "max", "list", "tuple", "sorted", "range", "enumerate", "zip", "isinstance", "str", "bool", "dict", "set"]
/-- the class that a kind stands for -/
def kdV (N : Nms) (K : PySem.W.Frag) : Kd → Value
  | .str => .type "str" | .int => .type "int" | .bool => .type "bool" | .tuple => .type "tuple" | .list => .type "list" | .dict => .type "dict"
  | .cls c => .ref (He.ga K ((N.cl c).getD ""))
structure ClF (G : Dat) (K : PySem.W.Frag) (mg : Str → Option Value) (x : Str) (C : Cl) : Prop where
  mgx : mg x = some (.ref (He.ga K x))
  cls : Cls K (He.ga K x)
  no : ∀ f ∈ G.N.fld, NoAttr K (He.ga K x) f
  me : ∀ (m f : Nat), C.meths.lookup m = some f → ∃ (y : Str) (F : FnD), G.N.mth[m]? = some y ∧ G.df f = some F ∧ F.d.at_ = (x, some y) ∧ Meth K (He.ga K x) y (He.ma K (He.ga K x) y)
  ini : ∃ F : FnD, G.df C.init = some F ∧ F.d.at_ = (x, some ("__init__" : Str))
  mkr : Mk K (He.ga K x) (He.ma K (He.ga K x) "__init__")
  ty : InsTy K (He.ga K x)
structure TabOk (G : Dat) (K : PySem.W.Frag) (mg : Str → Option Value) : Prop where
  fg : ∀ (f : Nat) (F : FnD) (x : Str), G.df f = some F → F.d.at_ = (x, none) → mg x = some (.ref (He.ga K x))
  cl : ∀ (c : Nat) (x : Str), G.N.cl c = some x → ∃ C : Cl, G.T.cl c = some C ∧ ClF G K mg x C
  nd : G.N.fld.Nodup
  mf : ∀ y ∈ G.N.mth, y ∉ G.N.fld
  gl : ∀ (g : Nat) (w : W), G.T.gl g = some w → ∃ (x : Str) (u : Value) (v : V), G.N.gl g = some x ∧ mg x = some u ∧ RelV v u ∧ ∀ B H, Rep K B H w v
  bl : ∀ x ∈ bltNames, mg x = none
  /-- isinstance among built-in types and own classes -/
  kt : ∀ (t : String) (c : Nat) (x : Str), t ∈ ["NoneType", "bool", "int", "str", "tuple", "list", "dict"] → G.N.cl c = some x → PySem.W.kitOne K (.type t) (kdV G.N K (.cls c)) = some false
  kc : ∀ (c : Nat) (k : Kd) (x : Str), G.N.cl c = some x → (∀ d, k = .cls d → ∃ y, G.N.cl d = some y) → PySem.W.kitOne K (kdV G.N K (.cls c)) (kdV G.N K k) = some (decide (k = .cls c))
/-- a call with keywords: what the def's parameters are -/
structure KbV (K : PySem.W.Frag) (fd : FuncData) (ps : List Str) (n : Nat) (ks : List Str) (pm : List Pk) : Prop where
  len : pm.length = ps.length
  ex : ∃ (g : List Value → List Value → List Value) (gV : List V → List V → List V), KBn K fd ps n ks g gV ∧ ∀ (B : List Addr) (H : Hp) (ws us : List W) (vs zs : List V) (r : List W), Reps K B H ws vs → Reps K B H us zs → permW pm (ws ++ us) = some r → Reps K B H r (gV vs zs)
theorem optList_len {A D : Type} {f : A → Option D} : ∀ {l : List A} {r : List D}, optList l f = some r → r.length = l.length
  | [], r, h => by
    simp only [optList, Option.some.injEq] at h
    subst h
    rfl
  | a :: l, r, h => by
    simp only [optList] at h
    split at h
    · rename_i q
      cases h
      simp [optList_len q]
    · cases h
/-- a body within the text -/
structure Cok (G : Dat) (cl : Caller) (k : Nat) (X : Cx) (E : XK) (C : Sco) : Prop where
  tab : TabOk G X.K X.mg
  fns : ∀ (f : Nat) (F : FnD), G.df f = some F → ∃ fd, PySem.W.keepIn X.K (.ref (He.fAd X.K F.d.at_)) = true ∧ (F.pl = true → Binds X.K fd F.ps []) ∧ (∀ (n : Nat) (ks : List Str) (pm : List Pk), (⟨f, n, ks, pm⟩ : Shp) ∈ G.KS → KbV X.K fd F.ps n ks pm) ∧ FnOk X.prog X.w X.K X.mg X.base (L2.CX X.prog X.w) k (He.fAd X.K F.d.at_) fd F.ps (spF G.N X.K cl f F.ps.length)
  calm : X.calm = true
  nN : X.N = C.S
  nd : C.S.Nodup
  sc : X.env.scope = C.sc
  fn : X.fn = C.fn
  room : Room (k + 1) X.A
  tk : L2.Takes X (fun c d _ H => E c d H)
section
variable {G : Dat} {cl : Caller} {k : Nat} {X : Cx} {E : XK} {C : Sco}
theorem Cok.passes (h : Cok G cl k X E C) : Passes (L2.CX X.prog X.w) X E := L2.passes_call h.tk fun _ _ _ _ q => q
theorem Cok.blk (h : Cok G cl k X E C) (scope : Scope) (s : Shared) (H : Hp) (Cc : Addr) (cle : List (Str × Addr)) (fp : List Addr) :
    Cok G cl k (X.blk s H scope (compEnvC scope cle Cc X.env) fp) (fun _ _ _ => False) (C.blk scope) := by
  refine ⟨h.tab, h.fns, h.calm, h.nN, h.nd, ?_, rfl, h.room, fun u s' x => ?_⟩
  · show relS scope X.env.scope = relS scope C.sc
    rw [h.sc]
  · obtain ⟨a, B, sI, pins, σ, H, cls, d, _, _, _, _, _, _, _, _, w⟩ := x
    exact w.elim
theorem vis_of (h : X.env.scope = C.sc) {x : Str} (v : visB C x = true) : Vis X.env.scope x := by
  unfold visB at v
  rw [h]
  split at v
  · exact .inl (by assumption)
  · exact .inr (.inl (by assumption))
  · exact .inr (.inr (by assumption))
  · cases v
theorem glo_of (h : X.env.scope = C.sc) {x : Str} (v : gloB C x = true) : Gl X x := by
  unfold gloB at v
  show X.env.scope.names.lookup x = some .globalImplicit
  rw [h]
  split at v
  · assumption
  · cases v
theorem loc_of (h : X.env.scope = C.sc) {x : Str} (v : locB C x = true) : X.env.scope.names.lookup x = some .local := by
  unfold locB at v
  rw [h]
  split at v
  · assumption
  · cases v
theorem sto_of (h : Cok G cl k X E C) {x : Str} (v : stoB C x = true) : Loc X.env.scope x ∧ (X.fn x = true ∨ X.env.scope.names.lookup x = some .local) := by
  unfold stoB at v
  rw [h.sc, h.fn]
  unfold L2.Loc
  split at v
  · rename_i e; exact ⟨.inl e, .inr e⟩
  · rename_i e; exact ⟨.inr e, .inl v⟩
  · cases v
theorem slot_of (h : Cok G cl k X E C) {i : Nat} {x : Str} (v : slotB C i x = true) : X.N[i]? = some x := by
  rw [h.nN]
  exact of_decide_eq_true v
theorem nm1_of {x : Str} (v : nm1 x = true) : (x == ("__debug__" : Str)) = false ∧ (x == ("__classdict__" : Str)) = false := by
  unfold nm1 at v
  simpa [Bool.and_eq_true] using v
theorem dbg_of {x : Str} (v : dbg x = true) : (x == ("__debug__" : Str)) = false := by
  unfold dbg at v
  simpa using v
end

/-- an expression's reading, a test's, a list's -/
abbrev DW (G : Dat) (X : Cx) (E : XK) (f : Env → Mem → R W) : TE := Den G.N X.K E (RW X.K) f
abbrev DT (G : Dat) (X : Cx) (E : XK) (f : Env → Mem → R W) : TT := Den G.N X.K E RB fun e m => (f e m).bind tru
abbrev DTb (G : Dat) (X : Cx) (E : XK) (f : Env → Mem → R Bool) : TT := Den G.N X.K E RB f
abbrev DL (G : Dat) (X : Cx) (E : XK) (f : Env → Mem → R (List W)) : TA := Den G.N X.K E (RWs X.K) f
/-- where a tree without an end is bad too -/
theorem tru_ok {m : Mem} {w : W} {m' : Mem} {b : Bool} : truth m w = some b → tru w m = .ok b m := fun h => by unfold tru; rw [h] <;> rfl

section
variable {G : Dat} {cl : Caller} {k : Nat} {X : Cx} {E : XK} {C : Sco} {fa fb fc : Env → Mem → R W} {a b c : Expr} {pos : Pos}
/-- a test by its value's truth -/
theorem t_val (ha : PE X a (DW G X E fa)) (he : ∀ whole, isTrue a X.env whole = (do let v ← whole; standAt a.pos; holding [v] (truthy v))) : PT X a (DT G X E fa) := by
  refine PT_imp (pt_truth ha he) ?_
  rintro σ H Q ⟨B, m, e, rm, re, h⟩
  refine ⟨B, m, e, rm, re, (Post.bind (RR := RW X.K) h).imp fun x H1 ⟨B1, m1, w, g, rm1, rw1, h1⟩ => ?_⟩
  obtain ⟨b, eb, h1⟩ := Post.ofO h1
  exact ⟨b, truth_v rm1 rw1 eb, Post.here h1 rm1 rfl⟩
theorem s_var (K : Cok G cl k X E C) {i : Nat} {x : Str} (h1 : slotB C i x = true) (h2 : visB C x = true) (h3 : nm1 x = true) : PE X (.Name x pos) (DW G X E (ev G.T cl (.var i))) := by
  refine PE_imp (pe_var (slot_of K h1) (vis_of K.sc h2) (nm1_of h3).1 (nm1_of h3).2) ?_
  rintro σ H Q ⟨B, m, e, rm, re, h⟩
  simp only [ev] at h
  split at h
  · rename_i w ew
    obtain ⟨v, h1, h2⟩ := re.get i w ew
    exact ⟨v, h1, end_w h rm h2⟩
  · exact h.elim
theorem s_con {w : W} {v : V} (hp : PE X a (tC v)) (r : ∀ B H, Rep X.K B H w v) : PE X a (DW G X E (fun _ m => .ok w m)) := by
  refine PE_imp hp ?_
  rintro σ H Q ⟨B, m, e, rm, re, h⟩
  exact end_w h rm (r B H)
theorem s_glo (K : Cok G cl k X E C) {g : Nat} {x : Str} (h1 : G.N.gl g = some x) (h2 : gloB C x = true) (h3 : dbg x = true) : PE X (.Name x pos) (DW G X E (ev G.T cl (.glo g))) := by
  cases q : G.T.gl g with
  | none =>
    refine ⟨fun pins s σ H Q I ⟨B, m, e, rm, re, h⟩ => ?_⟩
    simp only [ev, q] at h
    exact h.elim
  | some w =>
    obtain ⟨y, u, v, e1, e2, e3, e4⟩ := K.tab.gl g w q
    rw [h1] at e1
    cases e1
    have e : ev G.T cl (.glo g) = fun _ m => .ok w m := by
      funext _ m
      simp only [ev, q, ofO]
    rw [e]
    exact s_con (pe_glob (glo_of K.sc h2) e2 e3 (dbg_of h3)) e4
/-- two in a row -/
theorem two {σ : L2.St} {H : Hp} {f : W → W → Mem → R W} {Q : VK} (h : DW G X E (fun e m => (fa e m).bind fun w m1 => (fb e m1).bind fun u m2 => f w u m2) σ H Q) :
    DW G X E fa σ H fun x H1 => DW G X E fb σ H1 fun y H2 => R2W G.N X.K E f x y H2 Q := by
  obtain ⟨B, m, e, rm, re, h⟩ := h
  exact ⟨B, m, e, rm, re, (Post.bind (RR := RW X.K) h).imp fun x H1 ⟨B1, m1, w, g, rm1, rw1, h1⟩ => ⟨B1, m1, e, rm1, re.grow g, (Post.bind (RR := RW X.K) h1).imp fun y H2 ⟨B2, m2, u, g2, rm2, ru, h2⟩ =>
    ⟨B2, m2, w, u, rm2, Rep.grow g2 _ _ rw1, ru, h2⟩⟩⟩
theorem s_bin (o : Bop) (ha : PE X a (DW G X E fa)) (hb : PE X b (DW G X E fb)) : PE X (.BinOp a (bopE o) b pos) (DW G X E fun e m => (fa e m).bind fun w m1 => (fb e m1).bind fun u m2 => binop o w u m2) :=
  PE_imp (pe_op (op_binW (N := G.N) (E := E) o) ha hb) fun _ _ _ h => two h
theorem s_neg (ha : PE X a (DW G X E fa)) : PE X (.UnaryOp .USub a pos) (DW G X E fun e m => (fa e m).bind fun w m1 => negW m1 w) := by
  refine PE_imp (pe_un (un_negW (N := G.N) (E := E)) ha) ?_
  rintro σ H Q ⟨B, m, e, rm, re, h⟩
  exact ⟨B, m, e, rm, re, (Post.bind (RR := RW X.K) h).imp fun x H1 ⟨B1, m1, w, g, rm1, rw1, h1⟩ => ⟨B1, m1, w, rm1, rw1, h1⟩⟩
theorem s_not (ha : PE X a (DW G X E fa)) : PE X (.UnaryOp .Not a pos) (DW G X E fun e m => (fa e m).bind fun w m1 => (tru w m1).bind fun b m2 => .ok (.bl (!b)) m2) := by
  refine PE_imp (pe_notT ha) ?_
  rintro σ H Q ⟨B, m, e, rm, re, h⟩
  refine ⟨B, m, e, rm, re, (Post.bind (RR := RW X.K) h).imp fun x H1 ⟨B1, m1, w, g, rm1, rw1, h1⟩ => ?_⟩
  unfold tru at h1
  cases q : truth m1 w with
  | none =>
    rw [q] at h1
    exact h1.elim
  | some b =>
    rw [q] at h1
    exact ⟨b, truth_v rm1 rw1 q, end_w h1 rm1 (.bl _)⟩
theorem s_cmp (K : Cok G cl k X E C) (o : Cop) (ha : PE X a (DW G X E fa)) (hb : PE X b (DW G X E fb)) (hs : noSet b = true) : PE X (.Compare a [copE o] [b] pos) (DW G X E fun e m => (fa e m).bind fun w m1 => (fb e m1).bind fun u m2 => cmpop o w u m2) :=
  PE_imp (pe_cmpR (op_cmpW (N := G.N) (E := E) (by have := K.room.un; omega) o) ha hb (noSet_bm hs)) fun _ _ _ h => two h
/-- a comparison says a bool -/
theorem ofO_bl {A : Type} {o : Option A} {f : A → Bool} {m m' : Mem} {r : W} (h : ofO m (o.map fun a => W.bl (f a)) = .ok r m') : ∃ b, r = .bl b := by
  cases o with
  | none => cases h
  | some a => cases h; exact ⟨_, rfl⟩
theorem cmpI_bl {p : Int → Int → Bool} {w u : W} {m m' : Mem} {r : W} (h : cmpI m p w u = .ok r m') : ∃ b, r = .bl b := by
  unfold cmpI at h
  split at h
  · cases h; exact ⟨_, rfl⟩
  · cases h
theorem cmpop_bl {o : Cop} {w u : W} {m m' : Mem} {r : W} (h : cmpop o w u m = .ok r m') : ∃ b, r = .bl b := by
  cases o with
  | eq => exact ofO_bl (f := id) h
  | ne => exact ofO_bl h
  | inn => exact ofO_bl (f := id) h
  | nin => exact ofO_bl h
  | lt => exact cmpI_bl h
  | le => exact cmpI_bl h
  | gt => exact cmpI_bl h
  | ge => exact cmpI_bl h
  | is =>
    simp only [cmpop] at h
    split at h <;> cases h
    exact ⟨_, rfl⟩
  | isn =>
    simp only [cmpop] at h
    split at h <;> cases h
    exact ⟨_, rfl⟩
/-- a tree that says a bool, as a test -/
theorem bool_test {B : List Addr} {H : Hp} {r : R W} {Q : Bool → Hp → Prop} (hb : ∀ w m, r = .ok w m → ∃ b, w = .bl b) (h : Post G.N X.K E RB B H (r.bind tru) Q) : Post G.N X.K E (RW X.K) B H r fun x H' => ∃ k, x = .bl k ∧ Q k H' := by
  cases r with
  | bad => exact h
  | rse c x m' => exact h
  | ok w m' =>
    obtain ⟨b, rfl⟩ := hb _ _ rfl
    intro B' H' v g rm' rv
    cases rv
    exact ⟨b, rfl, h B' H' b g rm' rfl⟩
theorem bind_ok {A D : Type} {r : R A} {f : A → Mem → R D} {d : D} {m : Mem} (h : r.bind f = .ok d m) : ∃ a m1, r = .ok a m1 ∧ f a m1 = .ok d m := by
  cases r with
  | ok a m1 => exact ⟨a, m1, rfl, h⟩
  | rse _ _ _ => cases h
  | bad => cases h
theorem t_cmp (K : Cok G cl k X E C) (o : Cop) (ha : PE X a (DW G X E fa)) (hb : PE X b (DW G X E fb)) (hs : noSet b = true) : PT X (.Compare a [copE o] [b] pos) (DT G X E fun e m => (fa e m).bind fun w m1 => (fb e m1).bind fun u m2 => cmpop o w u m2) := by
  refine PT_imp (pt_cmpR (op_cmpW (N := G.N) (E := E) (by have := K.room.un; omega) o) ha hb (noSet_bm hs)) ?_
  rintro σ H Q ⟨B, m, e, rm, re, h⟩
  refine two ⟨B, m, e, rm, re, bool_test (fun w m q => ?_) h⟩
  obtain ⟨_, _, _, q⟩ := bind_ok q
  obtain ⟨_, _, _, q⟩ := bind_ok q
  exact cmpop_bl q
end
end Mi
end

section
set_option Elab.async false
set_option linter.all false
set_option maxRecDepth 100000
set_option maxHeartbeats 4000000
/-! MiH: more expressions, case by case. -/
namespace Mi
open PySem PySem.Spec PyProof.Rows L2

section
variable {G : Dat} {cl : Caller} {k : Nat} {X : Cx} {E : XK} {C : Sco} {fa fb fc : Env → Mem → R W} {a b c : Expr} {pos : Pos}
/-! ### chains, and, or, if -/
def chF (o p : Cop) (fa fb fc : Env → Mem → R W) : Env → Mem → R W := fun e m => (fa e m).bind fun w m1 => (fb e m1).bind fun u m2 => (cmpop o w u m2).bind fun x m3 => match x with
    | .bl true => (fc e m3).bind fun v m4 => cmpop p u v m4
    | .bl false => .ok (.bl false) m3
    | _ => .bad
theorem ch_read {o p : Cop} {σ : L2.St} {H : Hp} {Q : VK} {B : List Addr} {m : Mem} {e : Env} (rm : RelM G.N X.K B m H) (re : RelE X.K B H e σ) (h : Post G.N X.K E (RW X.K) B H (chF o p fa fb fc e m) Q) :
    tChain (R2W G.N X.K E (cmpop o)) (R2W G.N X.K E (cmpop p)) (DW G X E fa) (DW G X E fb) (DW G X E fc) σ H Q := by
  refine ⟨B, m, e, rm, re, (Post.bind (RR := RW X.K) h).imp fun x H1 ⟨B1, m1, w, g, rm1, rw1, h1⟩ => ⟨B1, m1, e, rm1, re.grow g, (Post.bind (RR := RW X.K) h1).imp fun y H2 ⟨B2, m2, u, g2, rm2, ru, h2⟩ => ?_⟩⟩
  refine ⟨B2, m2, w, u, rm2, Rep.grow g2 _ _ rw1, ru, (Post.bind (RR := RW X.K) h2).imp fun z H3 ⟨B3, m3, q, g3, rm3, rq, h3⟩ => ?_⟩
  split at h3
  · cases rq
    refine ⟨true, rfl, ?_⟩
    rw [if_pos rfl]
    exact ⟨B3, m3, e, rm3, ((re.grow g).grow g2).grow g3, (Post.bind (RR := RW X.K) h3).imp fun y4 H4 ⟨B4, m4, v, g4, rm4, rv, h4⟩ => ⟨B4, m4, u, v, rm4, Rep.grow g4 _ _ (Rep.grow g3 _ _ ru), rv, h4⟩⟩
  · cases rq
    refine ⟨false, rfl, ?_⟩
    rw [if_neg Bool.false_ne_true]
    exact end_w h3 rm3 (.bl _)
  · exact h3.elim
theorem s_chain (K : Cok G cl k X E C) (o p : Cop) (ha : PE X a (DW G X E fa)) (hb : PE X b (DW G X E fb)) (hc : PE X c (DW G X E fc)) (hs : noSet c = true) : PE X (.Compare a [copE o, copE p] [b, c] pos) (DW G X E (chF o p fa fb fc)) := by
  have hu : X.A.units + 65 < cLine := by have := K.room.un; omega
  refine PE_imp (pe_chain (op_cmpW (N := G.N) (E := E) hu o) (op_cmpW (N := G.N) (E := E) hu p) ha hb hc (noSet_lm hs)) ?_
  rintro σ H Q ⟨B, m, e, rm, re, h⟩
  exact ch_read rm re h
theorem chF_bl {o p : Cop} {e : Env} {m m' : Mem} {w : W} (q : chF o p fa fb fc e m = .ok w m') : ∃ b, w = .bl b := by
  obtain ⟨_, _, _, q⟩ := bind_ok q
  obtain ⟨_, _, _, q⟩ := bind_ok q
  obtain ⟨_, _, _, q⟩ := bind_ok q
  split at q
  · obtain ⟨_, _, _, q⟩ := bind_ok q
    exact cmpop_bl q
  · cases q; exact ⟨_, rfl⟩
  · cases q
theorem t_chain (K : Cok G cl k X E C) (o p : Cop) (ha : PE X a (DW G X E fa)) (hb : PE X b (DW G X E fb)) (hc : PE X c (DW G X E fc)) (hs : noSet c = true) : PT X (.Compare a [copE o, copE p] [b, c] pos) (DT G X E (chF o p fa fb fc)) := by
  have hu : X.A.units + 65 < cLine := by have := K.room.un; omega
  refine PT_imp (pt_chain (op_cmpW (N := G.N) (E := E) hu o) (op_cmpW (N := G.N) (E := E) hu p) ha hb hc (noSet_lm hs)) ?_
  rintro σ H Q ⟨B, m, e, rm, re, h⟩
  exact ch_read rm re (bool_test (fun w m q => chF_bl q) h)

def andF (fa fb : Env → Mem → R W) : Env → Mem → R W := fun e m => (fa e m).bind fun w m1 => (tru w m1).bind fun t m2 => if t then fb e m2 else .ok w m2
def orF (fa fb : Env → Mem → R W) : Env → Mem → R W := fun e m => (fa e m).bind fun w m1 => (tru w m1).bind fun t m2 => if t then .ok w m2 else fb e m2
def iteF (fc fa fb : Env → Mem → R W) : Env → Mem → R W := fun e m => (fc e m).bind fun w m1 => (tru w m1).bind fun t m2 => if t then fa e m2 else fb e m2
/-- behind a value whose truth is asked -/
theorem tru_post {A D : Type} {RR : List Addr → Hp → A → D → Prop} {B : List Addr} {H : Hp} {w : W} {m : Mem} {f : Bool → Mem → R A} {Q : D → Hp → Prop} (h : Post G.N X.K E RR B H ((tru w m).bind f) Q) : ∃ t, truth m w = some t ∧ Post G.N X.K E RR B H (f t m) Q := by
  unfold tru at h
  cases q : truth m w with
  | none =>
    rw [q] at h
    exact h.elim
  | some t =>
    rw [q] at h
    exact ⟨t, rfl, h⟩
variable {rest : List Expr}
theorem s_and (ha : PE X a (DW G X E fa)) (hb : PE X (.BoolOp .And (b :: rest) pos) (DW G X E fb)) : PE X (.BoolOp .And (a :: b :: rest) pos) (DW G X E (andF fa fb)) := by
  refine PE_imp (pe_andT ha hb) ?_
  rintro σ H Q ⟨B, m, e, rm, re, h⟩
  refine ⟨B, m, e, rm, re, (Post.bind (RR := RW X.K) h).imp fun x H1 ⟨B1, m1, w, g, rm1, rw1, h1⟩ => ?_⟩
  obtain ⟨t, et, h1⟩ := tru_post h1
  refine ⟨t, truth_v rm1 rw1 et, ?_⟩
  cases t with
  | true => exact ⟨B1, m1, e, rm1, re.grow g, h1⟩
  | false => exact end_w h1 rm1 rw1
theorem s_or (ha : PE X a (DW G X E fa)) (hb : PE X (.BoolOp .Or (b :: rest) pos) (DW G X E fb)) : PE X (.BoolOp .Or (a :: b :: rest) pos) (DW G X E (orF fa fb)) := by
  refine PE_imp (pe_orT ha hb) ?_
  rintro σ H Q ⟨B, m, e, rm, re, h⟩
  refine ⟨B, m, e, rm, re, (Post.bind (RR := RW X.K) h).imp fun x H1 ⟨B1, m1, w, g, rm1, rw1, h1⟩ => ?_⟩
  obtain ⟨t, et, h1⟩ := tru_post h1
  refine ⟨t, truth_v rm1 rw1 et, ?_⟩
  cases t with
  | true => exact end_w h1 rm1 rw1
  | false => exact ⟨B1, m1, e, rm1, re.grow g, h1⟩
/-- one test ahead of another -/
theorem bind_tru {A : Type} {RR : List Addr → Hp → A → Bool → Prop} {B : List Addr} {H : Hp} {r : R W} {f : W → Bool → Mem → R W} {Q : Bool → Hp → Prop} (h : Post G.N X.K E RB B H ((r.bind fun w m1 => (tru w m1).bind fun t m2 => f w t m2).bind tru) Q) :
    Post G.N X.K E RB B H (r.bind tru) fun t H1 => ∃ B1 m1 w, Grow B B1 H H1 ∧ RelM G.N X.K B1 m1 H1 ∧ truth m1 w = some t ∧ Post G.N X.K E RB B1 H1 ((f w t m1).bind tru) Q := by
  cases r with
  | bad => exact h
  | rse _ _ _ => exact h
  | ok w m1 =>
    unfold tru at h
    show Post _ _ _ _ _ _ (tru w m1) _
    unfold tru
    simp only [R.bind] at h
    cases q : truth m1 w with
    | none =>
      rw [q] at h
      exact h
    | some t =>
      rw [q] at h
      intro B' H' b g rm eb
      cases eb
      exact ⟨B', m1, w, g, rm, q, Post.mono (r := (f w t m1).bind tru) h g⟩
theorem w_and (ha : PT X a (DT G X E fa)) (hb : PW X (.BoolOp .And (b :: rest) pos) (DT G X E fb)) : PW X (.BoolOp .And (a :: b :: rest) pos) (DT G X E (andF fa fb)) := by
  refine PW_imp (pw_and ha hb) ?_
  rintro σ H Q ⟨B, m, e, rm, re, h⟩
  refine ⟨B, m, e, rm, re, (bind_tru (A := W) (RR := fun _ _ _ _ => True) h).imp fun t H1 ⟨B1, m1, w, g, rm1, et, h1⟩ => ?_⟩
  cases t with
  | true => exact ⟨B1, m1, e, rm1, re.grow g, h1⟩
  | false =>
    rw [if_neg Bool.false_ne_true]
    have h2 : Post G.N X.K E RB B1 H1 (tru w m1) Q := h1
    unfold tru at h2
    rw [et] at h2
    exact Post.here h2 rm1 rfl
theorem w_or (ha : PT X a (DT G X E fa)) (hb : PW X (.BoolOp .Or (b :: rest) pos) (DT G X E fb)) : PW X (.BoolOp .Or (a :: b :: rest) pos) (DT G X E (orF fa fb)) := by
  refine PW_imp (pw_or ha hb) ?_
  rintro σ H Q ⟨B, m, e, rm, re, h⟩
  refine ⟨B, m, e, rm, re, (bind_tru (A := W) (RR := fun _ _ _ _ => True) h).imp fun t H1 ⟨B1, m1, w, g, rm1, et, h1⟩ => ?_⟩
  cases t with
  | false => exact ⟨B1, m1, e, rm1, re.grow g, h1⟩
  | true =>
    rw [if_pos rfl]
    have h2 : Post G.N X.K E RB B1 H1 (tru w m1) Q := h1
    unfold tru at h2
    rw [et] at h2
    exact Post.here h2 rm1 rfl
theorem t_not (ha : PT X a (DT G X E fa)) : PT X (.UnaryOp .Not a pos) (DT G X E fun e m => (fa e m).bind fun w m1 => (tru w m1).bind fun b m2 => .ok (.bl (!b)) m2) := by
  refine PT_imp (pt_not ha) ?_
  rintro σ H Q ⟨B, m, e, rm, re, h⟩
  exact ⟨B, m, e, rm, re, (bind_tru (A := W) (RR := fun _ _ _ _ => True) (f := fun _ b m2 => .ok (.bl (!b)) m2) h).imp fun t H1 ⟨B1, m1, w, g, rm1, et, h1⟩ => Post.here h1 rm1 rfl⟩
theorem s_ite (hc : PT X c (DT G X E fc)) (ha : PE X a (DW G X E fa)) (hb : PE X b (DW G X E fb)) : PE X (.IfExp c a b pos) (DW G X E (iteF fc fa fb)) := by
  refine PE_imp (pe_ifExp hc ha hb) ?_
  rintro σ H Q ⟨B, m, e, rm, re, h⟩
  have h' : Post G.N X.K E (RW X.K) B H (((fc e m).bind tru).bind fun t m2 => if t then fa e m2 else fb e m2) Q := by
    have e1 : (((fc e m).bind tru).bind fun t m2 => if t then fa e m2 else fb e m2) = iteF fc fa fb e m := by
      unfold iteF
      cases fc e m <;> rfl
    rw [e1]
    exact h
  refine ⟨B, m, e, rm, re, (Post.bind (RR := RB) h').imp fun t H1 ⟨B1, m1, t', g, rm1, et, h1⟩ => ?_⟩
  cases et
  cases t with
  | true => exact ⟨B1, m1, e, rm1, re.grow g, h1⟩
  | false => exact ⟨B1, m1, e, rm1, re.grow g, h1⟩
theorem t_ite (hc : PT X c (DT G X E fc)) (ha : PT X a (DT G X E fa)) (hb : PT X b (DT G X E fb)) : PT X (.IfExp c a b pos) (DT G X E (iteF fc fa fb)) := by
  refine ⟨fun pins s σ H Q I ⟨B, m, e, rm, re, h⟩ => ?_⟩
  have h' : Post G.N X.K E RB B H (((fc e m).bind tru).bind fun t m2 => (if t then fa e m2 else fb e m2).bind tru) Q := by
    have e1 : (((fc e m).bind tru).bind fun t m2 => (if t then fa e m2 else fb e m2).bind tru) = (iteF fc fa fb e m).bind tru := by
      unfold iteF
      cases fc e m with
      | ok w m1 =>
        show R.bind (tru w m1) _ = R.bind (R.bind (tru w m1) _) _
        cases tru w m1 <;> rfl
      | rse _ _ _ => rfl
      | bad => rfl
    rw [e1]
    exact h
  refine isTrue_IfExp (thn (hc.run pins s σ H _ I ⟨B, m, e, rm, re, Post.bind (RR := RB) h'⟩) fun t s1 ⟨H1, I1, B1, m1, t', g, rm1, et, h1⟩ => ?_)
  cases et
  cases t with
  | true => exact ha.run pins s1 σ H1 Q I1 ⟨B1, m1, e, rm1, re.grow g, h1⟩
  | false => exact hb.run pins s1 σ H1 Q I1 ⟨B1, m1, e, rm1, re.grow g, h1⟩

/-! ### lists -/
theorem l_nil : PA X [] (DL G X E fun _ m => .ok [] m) := by
  refine PA_imp pa_nil ?_
  rintro σ H Q ⟨B, m, e, rm, re, h⟩
  exact Post.here (RR := RWs X.K) (c := []) h rm Reps.nil
theorem l_cons {es : List Expr} {fl : Env → Mem → R (List W)} (ha : PE X a (DW G X E fa)) (hl : PA X es (DL G X E fl)) (hs : noStar a = true) : PA X (a :: es) (DL G X E fun e m => (fa e m).bind fun w m1 => (fl e m1).bind fun ws m2 => .ok (w :: ws) m2) := by
  refine PA_imp (pa_cons ha hl (star_cons hs)) ?_
  rintro σ H Q ⟨B, m, e, rm, re, h⟩
  exact ⟨B, m, e, rm, re, (Post.bind (RR := RW X.K) h).imp fun x H1 ⟨B1, m1, w, g, rm1, rw1, h1⟩ => ⟨B1, m1, e, rm1, re.grow g, (Post.bind (RR := RWs X.K) h1).imp fun xs H2 ⟨B2, m2, ws, g2, rm2, rs, h2⟩ =>
    Post.here (RR := RWs X.K) (c := x :: xs) h2 rm2 (.cons (Rep.grow g2 _ _ rw1) rs)⟩⟩
variable {es : List Expr} {fl : Env → Mem → R (List W)}
/-- what a list's trees say is so long -/
def Len (fl : Env → Mem → R (List W)) (n : Nat) : Prop := ∀ e m ws m', fl e m = .ok ws m' → ws.length = n
theorem len_ok {n : Nat} (hz : n ≤ 100) : n ≤ sizeLine := by rw [sizeLine_eq]; omega
/-- a list, with its length -/
theorem Post.list {A D : Type} {RR : List Addr → Hp → A → D → Prop} {n : Nat} {B : List Addr} {H : Hp} {e : Env} {m : Mem} {f : List W → Mem → R A} {Q : D → Hp → Prop} (hn : Len fl n) (h : Post G.N X.K E RR B H ((fl e m).bind f) Q) :
    Post G.N X.K E (RWs X.K) B H (fl e m) fun c H1 => ∃ B1 m1 a, a.length = n ∧ Grow B B1 H H1 ∧ RelM G.N X.K B1 m1 H1 ∧ Reps X.K B1 H1 a c ∧ Post G.N X.K E RR B1 H1 (f a m1) Q := by
  cases q : fl e m with
  | ok a m1 =>
    rw [q] at h
    exact fun B' H' c g rm rr => ⟨B', m1, a, hn _ _ _ _ q, g, rm, rr, Post.mono (r := f a m1) h g⟩
  | rse c x m1 => rw [q] at h; exact h
  | bad => rw [q] at h; exact h
theorem s_tup {k2 : Nat} (hl : PA X es (DL G X E fl)) (hn : Len fl es.length) (hz : es.length ≤ 100) : PE X (.Tuple es k2 pos) (DW G X E fun e m => (fl e m).bind fun ws m1 => .ok (.tup ws) m1) := by
  refine PE_imp (pe_tup hl) ?_
  rintro σ H Q ⟨B, m, e, rm, re, h⟩
  refine ⟨B, m, e, rm, re, (Post.list hn h).imp fun xs H1 ⟨B1, m1, ws, hw, g, rm1, rs, h1⟩ => ⟨by rw [rs.length, hw]; exact len_ok hz, fun p hp => end_tup h1 rm1 rs hp⟩⟩
theorem s_lst (hl : PA X es (DL G X E fl)) (hn : Len fl es.length) (hz : es.length ≤ 100) : PE X (.List es pos) (DW G X E fun e m => (fl e m).bind fun ws m1 => alloc (.lst ws) m1) := by
  refine PE_imp (pe_lst hl) ?_
  rintro σ H Q ⟨B, m, e, rm, re, h⟩
  refine ⟨B, m, e, rm, re, (Post.list hn h).imp fun xs H1 ⟨B1, m1, ws, hw, g, rm1, rs, h1⟩ => ⟨by rw [rs.length, hw]; exact len_ok hz, fun p hp => end_lst h1 rm1 rs hp⟩⟩

/-! ### subscripts, slices, fields -/
theorem s_idx (K : Cok G cl k X E C) (ha : PE X a (DW G X E fa)) (hb : PE X b (DW G X E fb)) (hs : noSl b = true) : PE X (.Subscript a b pos) (DW G X E fun e m => (fa e m).bind fun w m1 => (fb e m1).bind fun u m2 => idxW w u m2) :=
  PE_imp (pe_ix (ix_WW (N := G.N) (E := E) (by have := K.room.un; omega)) ha hb (noSl_ix hs)) fun _ _ _ h => two h
/-- a part of a slice -/
abbrev DO (G : Dat) (X : Cx) (E : XK) (f : Env → Mem → R (Option Int)) : TO := Den G.N X.K E (fun _ _ (a b : Option Int) => a = b) f
theorem po_n : PO X none (DO G X E fun e m => prt true (.ok .non m)) := by
  refine ⟨fun pins s σ H Q I ⟨B, m, e, rm, re, h⟩ => po_none.run pins s σ H Q I ?_⟩
  exact Post.here (RR := fun _ _ (a b : Option Int) => a = b) (a := (none : Option Int)) (c := none) h rm rfl
theorem po_s (hb : PE X b (DW G X E fb)) : PO X (some b) (DO G X E fun e m => prt false (fb e m)) := by
  refine ⟨fun pins s σ H Q I ⟨B, m, e, rm, re, h⟩ => (po_some hb).run pins s σ H Q I ?_⟩
  refine ⟨B, m, e, rm, re, (Post.bind (RR := RW X.K) h).imp fun x H1 ⟨B1, m1, w, g, rm1, rw1, h1⟩ => ?_⟩
  obtain ⟨l, el, h1⟩ := Post.ofO h1
  cases w with
  | int i =>
    cases rw1
    cases el
    exact ⟨i, rfl, Post.here (RR := fun _ _ (a b : Option Int) => a = b) (a := some i) (c := some i) h1 rm1 rfl⟩
  | _ => cases el
theorem s_slc {p2 : Pos} {lo hi : Option Expr} {fl fh : Env → Mem → R (Option Int)} (ha : PE X a (DW G X E fa)) (hl : PO X lo (DO G X E fl)) (hh : PO X hi (DO G X E fh)) :
    PE X (.Subscript a (.Slice lo hi none p2) pos) (DW G X E fun e m => (fa e m).bind fun w m1 => (fl e m1).bind fun l m2 => (fh e m2).bind fun h m3 => slcW w l h m3) := by
  refine PE_imp (pe_slice (sl_WW (N := G.N) (E := E)) ha hl hh) ?_
  rintro σ H Q ⟨B, m, e, rm, re, h⟩
  refine ⟨B, m, e, rm, re, (Post.bind (RR := RW X.K) h).imp fun x H1 ⟨B1, m1, w, g, rm1, rw1, h1⟩ => ⟨B1, m1, e, rm1, re.grow g, (Post.bind (RR := fun _ _ (a b : Option Int) => a = b) h1).imp fun l H2 ⟨B2, m2, l', g2, rm2, el, h2⟩ => ?_⟩⟩
  cases el
  refine ⟨B2, m2, e, rm2, (re.grow g).grow g2, (Post.bind (RR := fun _ _ (a b : Option Int) => a = b) h2).imp fun u H3 ⟨B3, m3, u', g3, rm3, eu, h3⟩ => ?_⟩
  cases eu
  exact ⟨B3, m3, w, rm3, Rep.grow g3 _ _ (Rep.grow g2 _ _ rw1), h3⟩
/-- the class of an instance of the text -/
theorem ins_of (T : TabOk G X.K X.mg) {B : List Addr} {m : Mem} {H : Hp} (rm : RelM G.N X.K B m H) {j c : Nat} {ad : Addr} {fs : List (Nat × W)} (hj : B[j]? = some ad) (hm : m[j]? = some (.ins c fs)) :
    ∃ (x : Str) (dx : Addr) (gs : List (Str × V)) (D : Cl), G.N.cl c = some x ∧ H ad = some (.ins (He.ga X.K x) dx gs) ∧ FRel G.N X.K B H fs gs ∧ G.T.cl c = some D ∧ ClF G X.K X.mg x D := by
  obtain ⟨a', h1, h2⟩ := rm.ob j _ hm
  rw [hj] at h1
  cases h1
  obtain ⟨x, dx, gs, e1, e2, e3⟩ := h2
  obtain ⟨D, e4, e5⟩ := T.cl c x e1
  exact ⟨x, dx, gs, D, e1, e2, e3, e4, e5⟩
theorem s_fld (K : Cok G cl k X E C) {f : Nat} {y : Str} (hf : G.N.fld[f]? = some y) (ha : PE X a (DW G X E fa)) (hs : noSup a = true) : PE X (.Attribute a y pos) (DW G X E fun e m => (fa e m).bind fun w m1 => match w with
    | .obj k => match m1[k]? with
      | some (.ins _ fs) => ofO m1 (fs.lookup f)
      | _ => .bad
    | _ => .bad) := by
  refine PE_imp (pe_fld ha (noSup_base hs)) ?_
  rintro σ H Q ⟨B, m, e, rm, re, h⟩
  refine ⟨B, m, e, rm, re, (Post.bind (RR := RW X.K) h).imp fun x H1 ⟨B1, m1, w, g, rm1, rw1, h1⟩ => ?_⟩
  split at h1
  · cases rw1 with
    | @obj j ad hj =>
      split at h1
      · rename_i c fs hm
        obtain ⟨z, dx, gs, D, e1, e2, e3, e4, F⟩ := ins_of K.tab rm1 hj hm
        obtain ⟨u, eu, h1⟩ := Post.ofO h1
        obtain ⟨v, q1, q2⟩ := e3.look K.tab.nd hf eu
        exact ⟨ad, _, dx, gs, v, rfl, e2, F.cls, F.no y (List.mem_of_getElem? hf), q1, end_w h1 rm1 q2⟩
      · exact h1.elim
  · exact h1.elim
/-! ### a dict's display -/
/-- keys and values by turns -/
def trsOf (G : Dat) (X : Cx) (E : XK) (cl : Caller) : CL → List (TE × TE)
  | .cons a (.cons b r) => (DW G X E (ev G.T cl a), DW G X E (ev G.T cl b)) :: trsOf G X E cl r
  | _ => []
/-- values by turns -/
def pairV : List V → List (V × V)
  | k :: v :: r => (k, v) :: pairV r
  | _ => []
def CL.even : CL → Bool
  | .nil => true
  | .cons _ (.cons _ r) => r.even
  | _ => false
theorem trs_rd : ∀ (l : CL), l.even = true → ∀ {B : List Addr} {m : Mem} {e : Env} {σ : L2.St} {H : Hp} {Q : List (V × V) → Hp → Prop}, RelM G.N X.K B m H → RelE X.K B H e σ → Post G.N X.K E (RWs X.K) B H (evL G.T cl l e m) (fun xs H' => Q (pairV xs) H') → tPairs (trsOf G X E cl l) σ H Q
  | .nil, _, B, m, e, σ, H, Q, rm, re, h => by
    rw [evL] at h
    exact Post.here (RR := RWs X.K) (c := []) h rm Reps.nil
  | .cons a .nil, h, _, _, _, _, _, _, _, _, _ => by cases h
  | .cons a (.cons b r), hv, B, m, e, σ, H, Q, rm, re, h => by
    rw [evL] at h
    refine ⟨B, m, e, rm, re, (Post.bind (RR := RW X.K) h).imp fun x H1 ⟨B1, m1, w, g, rm1, rw1, h1⟩ => ?_⟩
    have h1' : Post G.N X.K E (RWs X.K) B1 H1 ((ev G.T cl b e m1).bind fun u m2 => (evL G.T cl r e m2).bind fun us m3 => .ok (w :: u :: us) m3) (fun xs H' => Q (pairV xs) H') := by
      have e1 : ((evL G.T cl (.cons b r) e m1).bind fun ws m2 => .ok (w :: ws) m2) = ((ev G.T cl b e m1).bind fun u m2 => (evL G.T cl r e m2).bind fun us m3 => .ok (w :: u :: us) m3) := by
        rw [evL]
        cases ev G.T cl b e m1 with
        | ok u m2 =>
          show R.bind (R.bind (evL G.T cl r e m2) _) _ = R.bind (evL G.T cl r e m2) _
          cases evL G.T cl r e m2 <;> rfl
        | rse _ _ _ => rfl
        | bad => rfl
      rw [← e1]
      exact h1
    refine ⟨B1, m1, e, rm1, re.grow g, (Post.bind (RR := RW X.K) h1').imp fun y H2 ⟨B2, m2, u, g2, rm2, ru, h2⟩ => ?_⟩
    refine trs_rd r hv rm2 ((re.grow g).grow g2) ((Post.bind (RR := RWs X.K) h2).imp fun xs H3 ⟨B3, m3, us, g3, rm3, rs, h3⟩ => ?_)
    exact Post.here (RR := RWs X.K) (c := x :: y :: xs) h3 rm3 (.cons (Rep.grow g3 _ _ (Rep.grow g2 _ _ rw1)) (.cons (Rep.grow g3 _ _ ru) rs))
theorem pairs_rel {B : List Addr} {H : Hp} : ∀ {ws : List W} {xs : List V} {kvs : List (W × W)}, Reps X.K B H ws xs → pairsW ws = some kvs → ∃ ks, pairV xs = ks.map (fun kv => (kV kv.1, kv.2)) ∧ DRel X.K B H kvs ks ∧ ks.length = kvs.length
  | [], _, _, r, e => by cases r; cases e; exact ⟨[], rfl, .nil, rfl⟩
  | [_], _, _, r, e => by cases e
  | k :: v :: ws, _, _, r, e => by
    cases r with
    | @cons _ x _ _ rk r1 =>
      cases r1 with
      | @cons _ y _ _ rv r2 =>
        simp only [pairsW] at e
        split at e
        · rename_i hk
          obtain ⟨kvs, e1, e2⟩ := map_some e
          subst e2
          obtain ⟨kk, kr⟩ := isKey_some hk
          obtain ⟨ks, q1, q2, q3⟩ := pairs_rel r2 e1
          refine ⟨(kk, y) :: ks, ?_, .cons kr rv q2, by simp [q3]⟩
          have ex := key_kV kr rk
          subst ex
          simp [pairV, q1]
        · cases e
def dctF (T : Tab) (cl : Caller) (l : CL) : Env → Mem → R W := fun e m => (evL T cl l e (m ++ [.dct []])).bind fun ws m1 => dctEnd m.length ws m1
theorem s_dct0 : PE X (.Dict [] [] pos) (DW G X E (dctF G.T cl .nil)) := by
  refine PE_imp pe_dnewK ?_
  rintro σ H Q ⟨B, m, e, rm, re, h⟩ p hp
  unfold dctF at h
  rw [evL] at h
  simp only [R.bind, dctEnd] at h
  rw [List.getElem?_append_right (Nat.le_refl _)] at h
  simp only [Nat.sub_self, List.getElem?_cons_zero, pairsW, List.length_nil, Nat.zero_le, if_true] at h
  rw [List.set_append_right _ _ (Nat.le_refl _)] at h
  simp only [Nat.sub_self, List.set_cons_zero, mergeW, List.foldl_nil] at h
  exact end_new (o := .dct []) h rm hp ⟨[], upd_same, .nil⟩
theorem s_dct {keys : List (Option Expr)} {values : List Expr} {l : CL} (hv : l.even = true) (hp : PPs X pos keys values (trsOf G X E cl l)) (hall : keys.all (·.isSome) = true) (hl : keys.length = values.length) (h0 : keys ≠ []) (h15 : keys.length ≤ 15) :
    PE X (.Dict keys values pos) (DW G X E (dctF G.T cl l)) := by
  refine PE_imp (pe_disp hp hall hl h0 h15) ?_
  rintro σ H Q ⟨B, m, e, rm, re, h⟩ p hpn
  have rm1 := rm.new (u := .dK []) (o := .dct []) hpn ⟨[], upd_same, .nil⟩
  have g1 := grow_new (B := B) (u := .dK []) hpn
  have ro : (B ++ [p])[m.length]? = some p := by
    rw [List.getElem?_append_right (by rw [rm.len]; exact Nat.le_refl _), rm.len]
    simp
  refine trs_rd l hv rm1 (re.grow g1) ((Post.bind (RR := RWs X.K) (Post.mono h g1)).imp fun xs H2 ⟨B2, m2, ws, g2, rm2, rs, h2⟩ => ?_)
  have ro2 := g2.pre _ _ ro
  unfold dctEnd at h2
  split at h2
  · rename_i hm
    obtain ⟨ks0, d1, d2⟩ := rm2.dct ro2 hm
    cases d2
    split at h2
    · rename_i kvs hk
      split at h2
      · rename_i hz
        obtain ⟨ks, q1, q2, q3⟩ := pairs_rel rs hk
        refine ⟨d1, ks, q1, by rw [q3]; exact hz, ?_⟩
        have g3 : Grow B2 B2 H2 (upd H2 p (.dK (mergeK [] ks))) := grow_upd (by rw [d1]; intro _ z; cases z) (by rw [d1]; intro _ _ z; cases z)
        exact end_set h2 rm2 (nld hm) ro2 ⟨_, upd_same, (q2.grow g3).merge .nil⟩ fun H' g' => .obj (g'.pre _ _ ro2)
      · exact h2.elim
    · exact h2.elim
  · exact h2.elim
end
end Mi
end

section
set_option Elab.async false
set_option linter.all false
set_option maxRecDepth 100000
set_option maxHeartbeats 4000000
/-! MiI: calls. -/
namespace Mi
open PySem PySem.Spec PyProof.Rows L2

section
variable {G : Dat} {cl : Caller} {k : Nat} {X : Cx} {E : XK} {C : Sco} {fa fb fc : Env → Mem → R W} {fl : Env → Mem → R (List W)} {a b c o : Expr} {es : List Expr} {pos : Pos}
theorem plain_tail {env : PySem.Env} {pos : Pos} {a : Expr} {es : List Expr} (hs : ∀ e ∈ a :: es, noStar e = true) : (backTo pos (starEach es env)).any (·.1) = false :=
  (stars fun e he => hs e (List.mem_cons_of_mem _ he)).1
/-! ### a def of the text -/
theorem s_call0 (K : Cok G cl k X E C) {f : Nat} {F : FnD} {x : Str} {p : Pos} (hF : G.df f = some F) (hat : F.d.at_ = (x, none)) (hg : gloB C x = true) (hd : dbg x = true) (hps : F.ps.length = 0) (hpl : F.pl = true) :
    PE X (.Call (.Name x p) [] [] pos) (DW G X E fun e m => cl f [] m) := by
  obtain ⟨fd, kp, hb', hkb, hok⟩ := K.fns f F hF
  have hb := hb' hpl
  have ead : He.fAd X.K F.d.at_ = He.ga X.K x := by rw [hat] <;> rfl
  rw [ead] at kp hok
  refine PE_imp (pe_call0 hok (K.room.mono (Nat.le_succ k)) (glo_of K.sc hg) (K.tab.fg f F x hF hat) kp hb .nil K.passes (dbg_of hd)) ?_
  rintro σ H Q ⟨B, m, e, rm, re, h⟩
  exact ⟨B, m, [], rm, .nil, hps.symm, h⟩
theorem s_call (K : Cok G cl k X E C) {f : Nat} {F : FnD} {x : Str} {p : Pos} (hF : G.df f = some F) (hat : F.d.at_ = (x, none)) (hg : gloB C x = true) (hd : dbg x = true) (hl : PA X (a :: es) (DL G X E fl)) (hn : Len fl F.ps.length) (hs : ∀ e ∈ a :: es, noStar e = true) (hpl : F.pl = true) :
    PE X (.Call (.Name x p) (a :: es) [] pos) (DW G X E fun e m => (fl e m).bind fun ws m1 => cl f ws m1) := by
  obtain ⟨fd, kp, hb', hkb, hok⟩ := K.fns f F hF
  have hb := hb' hpl
  have ead : He.fAd X.K F.d.at_ = He.ga X.K x := by rw [hat] <;> rfl
  rw [ead] at kp hok
  refine PE_imp (pe_call hok (K.room.mono (Nat.le_succ k)) (glo_of K.sc hg) (K.tab.fg f F x hF hat) kp hb .nil K.passes hl (dbg_of hd) (star_cons (hs a List.mem_cons_self)) (plain_tail hs)) ?_
  rintro σ H Q ⟨B, m, e, rm, re, h⟩
  refine ⟨B, m, e, rm, re, (Post.list hn h).imp fun xs H1 ⟨B1, m1, ws, hw, g, rm1, rs, h1⟩ => ?_⟩
  show spF G.N X.K cl f F.ps.length (xs ++ []) H1 Q E
  rw [List.append_nil]
  exact ⟨B1, m1, ws, rm1, rs, hw, h1⟩

/-! ### a method -/
theorem meth_ht {env : PySem.Env} {m : Str} {ap cp : Pos} (ho : noSup o = true) (hl : (ap.endLine == cp.line) = true) (hs : ∀ e ∈ es, noStar e = true) (hz : es.length < 25) :
    eval (.Call (.Attribute o m ap) es [] cp) env = (do
      let ov ← eval o env
      standAt ap.atName
      let (f, first) ← holding [ov] (getMethod ov m (plainOf o env))
      callWith cp f first (backTo cp (starEach es env)) (backToKw cp (keywordEach [] env))) := by
  rw [arm_eval_Call, noSup_base ho]
  have hf : methodCallForm (es.length + ([] : List Keyword).length) (backTo cp (starEach es env)) (backToKw cp (keywordEach [] env)) = true := by
    unfold methodCallForm
    rw [(stars (env := env) (pos := cp) hs).2]
    have hz' : es.length < 30 := by omega
    simpa [backToKw, keywordEach] using hz'
  simp only [mcall_line hf hl]
/-- the call of a method: its receiver's class by the memory -/
def methF (T : Tab) (cl : Caller) (n : Nat) (fr : Env → Mem → R W) (fl : Env → Mem → R (List W)) : Env → Mem → R W := fun e m => (fr e m).bind fun w m1 => match w with
    | .obj k => match m1[k]? with
      | some (.ins c _) => match T.cl c with
        | some C => match C.meths.lookup n with
          | some f => (fl e m1).bind fun ws m2 => cl f (w :: ws) m2
          | none => .bad
        | none => .bad
      | _ => .bad
    | _ => .bad
theorem methF_some {T : Tab} {cl : Caller} {n : Nat} {e : Env} {w : W} {m1 : Mem} {B : List Addr} {H : Hp} {Q : VK}
    (h : Post G.N X.K E (RW X.K) B H (match w with
      | .obj k => match m1[k]? with
        | some (.ins c _) => match T.cl c with
          | some C => match C.meths.lookup n with
            | some f => (fl e m1).bind fun ws m2 => cl f (w :: ws) m2
            | none => .bad
          | none => .bad
        | _ => .bad
      | _ => .bad) Q) :
    ∃ k c fs D f, w = .obj k ∧ m1[k]? = some (.ins c fs) ∧ T.cl c = some D ∧ D.meths.lookup n = some f ∧ Post G.N X.K E (RW X.K) B H ((fl e m1).bind fun ws m2 => cl f (w :: ws) m2) Q := by
  split at h
  · split at h
    · rename_i hm
      split at h
      · rename_i hT
        split at h
        · rename_i hf
          exact ⟨_, _, _, _, _, rfl, hm, hT, hf, h⟩
        · exact h.elim
      · exact h.elim
    · exact h.elim
  · exact h.elim
/-- all arities of the methods of that name -/
def ArOk (G : Dat) (n : Nat) (j : Nat) : Prop := ∀ (c : Nat) (D : Cl) (f : Nat) (F : FnD), G.T.cl c = some D → D.meths.lookup n = some f → G.df f = some F → F.pl = true ∧ F.ps.length = j
theorem s_meth (K : Cok G cl k X E C) {n : Nat} {y : Str} {ap cp : Pos} (hy : G.N.mth[n]? = some y) (ho : PE X o (DW G X E fa)) (hos : noSup o = true) (hln : (ap.endLine == cp.line) = true) (hl : PA X (a :: es) (DL G X E fl)) {j : Nat} (hn : Len fl j) (hj : ArOk G n (j + 1)) (hs : ∀ e ∈ a :: es, noStar e = true)
    (hz : (a :: es).length < 25) : PE X (.Call (.Attribute o y ap) (a :: es) [] cp) (DW G X E (methF G.T cl n fa fl)) := by
  refine ⟨fun pins s σ H Q I ⟨B, m, e, rm, re, h⟩ => ?_⟩
  refine methcall_of (pl := plainOf o X.env) ho I ⟨B, m, e, rm, re, (Post.bind (RR := RW X.K) h).imp fun x H1 ⟨B1, m1, w, g, rm1, rw1, h1⟩ => ?_⟩ (meth_ht hos hln hs hz)
  obtain ⟨q, c, fs, D, f, rfl, hm, hT, hf, h1⟩ := methF_some h1
  cases rw1 with
  | @obj _ ad hq =>
    obtain ⟨z, dx, gs, D', e1, e2, e3, e4, F⟩ := ins_of K.tab rm1 hq hm
    rw [hT] at e4
    cases e4
    obtain ⟨y', Fd, f1, f2, f3, f4⟩ := F.me n f hf
    rw [hy] at f1
    cases f1
    obtain ⟨fd, kp, hb', hkb, hok⟩ := K.fns f Fd f2
    have hb := hb' (hj c D f Fd hT hf f2).1
    have ead : He.fAd X.K Fd.d.at_ = He.ma X.K (He.ga X.K z) y := by rw [f3] <;> rfl
    rw [ead] at kp hok
    refine ⟨ad, He.ga X.K z, dx, gs, _, rfl, e2, F.cls, f4, e3.no (K.tab.mf y (List.mem_of_getElem? hy)), fun s1 I1 => ?_⟩
    refine PySem.W.callWith_K (first := [.ref ad]) (h₀ := X.base) I1.ok.mod.kin kp (thn (hl.run cp pins s1 σ H1 _ I1 ⟨B1, m1, e, rm1, re.grow g, Post.list hn h1⟩) fun us s2 ⟨xs, H2, I2, r2, B2, m2, ws, hw, g2, rm2, rs, h2⟩ => ⟨I2.kIn, ?_⟩) (star_cons (hs a List.mem_cons_self)) (plain_tail hs)
    refine run_fn (us := .ref ad :: us) (vs := .ref ad :: xs) hok (K.room.mono (Nat.le_succ k)) hb .nil K.passes I2 (.cons rfl r2) ?_
    show spF G.N X.K cl f Fd.ps.length ((V.ref ad :: xs) ++ []) H2 Q E
    rw [List.append_nil]
    exact ⟨B2, m2, .obj q :: ws, rm2, .cons (.obj (g2.pre _ _ hq)) rs, by rw [List.length_cons, hw, (hj c D f Fd hT hf f2).2], h2⟩
theorem s_meth0 (K : Cok G cl k X E C) {n : Nat} {y : Str} {ap cp : Pos} (hy : G.N.mth[n]? = some y) (ho : PE X o (DW G X E fa)) (hos : noSup o = true) (hln : (ap.endLine == cp.line) = true) (hj : ArOk G n 1) :
    PE X (.Call (.Attribute o y ap) [] [] cp) (DW G X E (methF G.T cl n fa fun _ m => .ok [] m)) := by
  refine ⟨fun pins s σ H Q I ⟨B, m, e, rm, re, h⟩ => ?_⟩
  refine methcall_of (pl := plainOf o X.env) ho I ⟨B, m, e, rm, re, (Post.bind (RR := RW X.K) h).imp fun x H1 ⟨B1, m1, w, g, rm1, rw1, h1⟩ => ?_⟩ (meth_ht hos hln (fun e he => absurd he (by simp)) (by simp))
  obtain ⟨q, c, fs, D, f, rfl, hm, hT, hf, h1⟩ := methF_some (e := e) (fl := fun _ m => .ok [] m) h1
  cases rw1 with
  | @obj _ ad hq =>
    obtain ⟨z, dx, gs, D', e1, e2, e3, e4, F⟩ := ins_of K.tab rm1 hq hm
    rw [hT] at e4
    cases e4
    obtain ⟨y', Fd, f1, f2, f3, f4⟩ := F.me n f hf
    rw [hy] at f1
    cases f1
    obtain ⟨fd, kp, hb', hkb, hok⟩ := K.fns f Fd f2
    have hb := hb' (hj c D f Fd hT hf f2).1
    have ead : He.fAd X.K Fd.d.at_ = He.ma X.K (He.ga X.K z) y := by rw [f3] <;> rfl
    rw [ead] at kp hok
    refine ⟨ad, He.ga X.K z, dx, gs, _, rfl, e2, F.cls, f4, e3.no (K.tab.mf y (List.mem_of_getElem? hy)), fun s1 I1 => ?_⟩
    refine PySem.W.callWith_K0 (first := [.ref ad]) I1.kIn kp (run_fn (us := [.ref ad]) (vs := [.ref ad]) hok (K.room.mono (Nat.le_succ k)) hb .nil K.passes I1 (.cons rfl .nil) ?_)
    exact ⟨B1, m1, [.obj q], rm1, .cons (.obj hq) .nil, by rw [List.length_cons, List.length_nil, (hj c D f Fd hT hf f2).2], h1⟩

/-! ### a new instance -/
theorem make_rd {c : Nat} {x : Str} {D : Cl} {F : FnD} (hx : G.N.cl c = some x) (hF : G.df D.init = some F) {B : List Addr} {m : Mem} {H : Hp} {ws : List W} {xs : List V} {Q : VK} (rm : RelM G.N X.K B m H) (rs : Reps X.K B H ws xs) (hps : ws.length + 1 = F.ps.length)
    (h : Post G.N X.K E (RW X.K) B H ((cl D.init (.obj m.length :: ws) (m ++ [.ins c []])).bind fun w m2 => match w with
      | .non => .ok (.obj m.length) m2
      | _ => .bad) Q) (ad dx : Addr) (h1 : H ad = none) (h2 : H dx = none) (h3 : dx ≠ ad) :
    spF G.N X.K cl D.init F.ps.length (.ref ad :: xs) (upd (upd H dx (.own ad)) ad (.ins (He.ga X.K x) dx [])) (fun v H2 => v = .non ∧ Q (.ref ad) H2) E := by
  have rm1 : RelM G.N X.K B m (upd H dx (.own ad)) := rm.side h2
  have g1 : Grow B B H (upd H dx (.own ad)) := grow_none h2
  have h1' : upd H dx (.own ad) ad = none := (upd_ne (Ne.symm h3)).trans h1
  have rm2 := rm1.new (N := G.N) (u := .ins (He.ga X.K x) dx []) (o := .ins c []) h1' ⟨x, dx, [], hx, upd_same, .nil⟩
  have g2 : Grow B (B ++ [ad]) H (upd (upd H dx (.own ad)) ad (.ins (He.ga X.K x) dx [])) := g1.trans (grow_new h1')
  have ro : (B ++ [ad])[m.length]? = some ad := by
    rw [List.getElem?_append_right (by rw [rm.len]; exact Nat.le_refl _), rm.len]
    simp
  refine ⟨B ++ [ad], m ++ [.ins c []], .obj m.length :: ws, rm2, .cons (.obj ro) (Reps.grow g2 _ _ rs), by rw [List.length_cons]; exact hps, (Post.bind (RR := RW X.K) (Post.mono h g2)).imp fun v H2 ⟨B2, m2, w, g, rm3, rw3, h3⟩ => ?_⟩
  split at h3
  · cases rw3
    exact ⟨rfl, end_w h3 rm3 (.obj (g.pre _ _ ro))⟩
  · exact h3.elim
def makeF (T : Tab) (cl : Caller) (c : Nat) (fl : Env → Mem → R (List W)) : Env → Mem → R W := fun e m => (fl e m).bind fun ws m1 => match T.cl c with
    | some C => (cl C.init (.obj m1.length :: ws) (m1 ++ [.ins c []])).bind fun w m2 => match w with
      | .non => .ok (.obj m1.length) m2
      | _ => .bad
    | none => .bad
theorem s_make (K : Cok G cl k X E C) {n : Nat} {x : Str} {p : Pos} (hx : G.N.cl n = some x) (hg : gloB C x = true) (hd : dbg x = true) (hl : PA X (a :: es) (DL G X E fl)) {j : Nat} (hn : Len fl j) (hj : ∀ D F, G.T.cl n = some D → G.df D.init = some F → F.pl = true ∧ F.ps.length = j + 1) (hs : ∀ e ∈ a :: es, noStar e = true) :
    PE X (.Call (.Name x p) (a :: es) [] pos) (DW G X E (makeF G.T cl n fl)) := by
  obtain ⟨D, hD, F⟩ := K.tab.cl n x hx
  obtain ⟨Fd, f1, f2⟩ := F.ini
  obtain ⟨fd, kp, hb', hkb, hok⟩ := K.fns _ Fd f1
  have hb := hb' (hj D Fd hD f1).1
  have ead : He.fAd X.K Fd.d.at_ = He.ma X.K (He.ga X.K x) "__init__" := by rw [f2] <;> rfl
  rw [ead] at kp hok
  refine PE_imp (pe_make F.mkr hok K.room (glo_of K.sc hg) F.mgx hb .nil K.passes hl (dbg_of hd) (star_cons (hs a List.mem_cons_self)) (plain_tail hs)) ?_
  rintro σ H Q ⟨B, m, e, rm, re, h⟩
  refine ⟨B, m, e, rm, re, (Post.list hn h).imp fun xs H1 ⟨B1, m1, ws, hw, g, rm1, rs, h1⟩ => ?_⟩
  rw [hD] at h1
  intro ad dx h2 h3 h4
  rw [List.append_nil]
  exact make_rd hx f1 rm1 rs (by rw [hw, (hj D Fd hD f1).2]) h1 ad dx h2 h3 h4
theorem s_make0 (K : Cok G cl k X E C) {n : Nat} {x : Str} {p : Pos} (hx : G.N.cl n = some x) (hg : gloB C x = true) (hd : dbg x = true) (hj : ∀ D F, G.T.cl n = some D → G.df D.init = some F → F.pl = true ∧ F.ps.length = 1) :
    PE X (.Call (.Name x p) [] [] pos) (DW G X E (makeF G.T cl n fun _ m => .ok [] m)) := by
  obtain ⟨D, hD, F⟩ := K.tab.cl n x hx
  obtain ⟨Fd, f1, f2⟩ := F.ini
  obtain ⟨fd, kp, hb', hkb, hok⟩ := K.fns _ Fd f1
  have hb := hb' (hj D Fd hD f1).1
  have ead : He.fAd X.K Fd.d.at_ = He.ma X.K (He.ga X.K x) "__init__" := by rw [f2] <;> rfl
  rw [ead] at kp hok
  refine PE_imp (pe_make0 F.mkr hok K.room (glo_of K.sc hg) F.mgx hb .nil K.passes (dbg_of hd)) ?_
  rintro σ H Q ⟨B, m, e, rm, re, h⟩
  have h1 : Post G.N X.K E (RW X.K) B H (match G.T.cl n with
    | some C => (cl C.init [.obj m.length] (m ++ [.ins n []])).bind fun w m2 => match w with
      | .non => .ok (.obj m.length) m2
      | _ => .bad
    | none => .bad) Q := h
  rw [hD] at h1
  intro ad dx h2 h3 h4
  exact make_rd hx f1 rm .nil (by rw [(hj D Fd hD f1).2]; rfl) h1 ad dx h2 h3 h4

/-! ### calls with keywords -/
theorem PK_imp {kws : List Keyword} {t t' : TA} (h : PK X kws t) (q : ∀ σ H Q, t' σ H Q → t σ H Q) : PK X kws t' := ⟨fun pos pins s σ H Q I z => h.run pos pins s σ H Q I (q σ H Q z)⟩
theorem k_nil : PK X [] (DL G X E fun _ m => .ok [] m) := by
  refine PK_imp pk_nil ?_
  rintro σ H Q ⟨B, m, e, rm, re, h⟩
  exact Post.here (RR := RWs X.K) (c := []) h rm Reps.nil
theorem k_cons {kws : List Keyword} {nm : Option Str} {kp : Pos} (ha : PE X a (DW G X E fa)) (hl : PK X kws (DL G X E fl)) : PK X (⟨nm, a, kp⟩ :: kws) (DL G X E fun e m => (fa e m).bind fun w m1 => (fl e m1).bind fun ws m2 => .ok (w :: ws) m2) := by
  refine PK_imp (pk_cons ha hl) ?_
  rintro σ H Q ⟨B, m, e, rm, re, h⟩
  exact ⟨B, m, e, rm, re, (Post.bind (RR := RW X.K) h).imp fun x H1 ⟨B1, m1, w, g, rm1, rw1, h1⟩ => ⟨B1, m1, e, rm1, re.grow g, (Post.bind (RR := RWs X.K) h1).imp fun xs H2 ⟨B2, m2, ws, g2, rm2, rs, h2⟩ =>
    Post.here (RR := RWs X.K) (c := x :: xs) h2 rm2 (.cons (Rep.grow g2 _ _ rw1) rs)⟩⟩

theorem kw_all {env : PySem.Env} {pos : Pos} : ∀ {kws : List Keyword}, (kws.all fun k => k.arg.isSome) = true → (backToKw pos (keywordEach kws env)).all (·.1.isSome) = true
  | [], _ => rfl
  | ⟨some n, v, p⟩ :: kws, h => by
    have h2 : (kws.all fun k => k.arg.isSome) = true := by simpa using h
    have ih := kw_all (env := env) (pos := pos) h2
    simp only [keywordEach, backToKw, List.map_cons, List.all_cons, Option.isSome_some, Bool.true_and] at ih ⊢
    exact ih
  | ⟨none, v, p⟩ :: kws, h => by simp at h
theorem kw_ks {env : PySem.Env} {pos : Pos} : ∀ {kws : List Keyword}, (backToKw pos (keywordEach kws env)).filterMap (·.1) = kwNs kws
  | [] => rfl
  | ⟨some n, v, p⟩ :: kws => by
    have ih := kw_ks (env := env) (pos := pos) (kws := kws)
    simp only [keywordEach, backToKw, kwNs, List.map_cons, List.filterMap_cons] at ih ⊢
    rw [ih]
  | ⟨none, v, p⟩ :: kws => by
    have ih := kw_ks (env := env) (pos := pos) (kws := kws)
    simp only [keywordEach, backToKw, kwNs, List.map_cons, List.filterMap_cons] at ih ⊢
    rw [ih]
theorem kw_pl {env : PySem.Env} {pos : Pos} {b : Bool} (hb : b = false) : ∀ {kws : List Keyword}, (kws.all fun k => k.arg.isSome) = true → (b || (backToKw pos (keywordEach kws env)).any (·.1.isNone)) = false
  | [], _ => by rw [hb] <;> rfl
  | ⟨some n, v, p⟩ :: kws, h => by
    have h2 : (kws.all fun k => k.arg.isSome) = true := by simpa using h
    have ih := kw_pl (env := env) (pos := pos) hb h2
    subst hb
    simp only [keywordEach, backToKw, List.map_cons, List.any_cons, Option.isNone_some, Bool.false_or] at ih ⊢
    exact ih
  | ⟨none, v, p⟩ :: kws, h => by simp at h
theorem kw_len : ∀ {kws : List Keyword}, (kws.all fun k => k.arg.isSome) = true → (kwNs kws).length = kws.length
  | [], _ => rfl
  | ⟨some n, v, p⟩ :: kws, h => by
    have h2 : (kws.all fun k => k.arg.isSome) = true := by simpa using h
    have ih := kw_len h2
    simp only [kwNs, List.filterMap_cons, List.length_cons] at ih ⊢
    rw [ih]
  | ⟨none, v, p⟩ :: kws, h => by simp at h
/-- the end of a call with keywords -/
def kEnd (cl : Caller) (f : Nat) (pm : List Pk) (ws us : List W) (m : Mem) : R W := match permW pm (ws ++ us) with
  | some vs => cl f vs m
  | none => .bad
theorem kEnd_some {f : Nat} {pm : List Pk} {ws us : List W} {m : Mem} {B : List Addr} {H : Hp} {Q : VK} (h : Post G.N X.K E (RW X.K) B H (kEnd cl f pm ws us m) Q) : ∃ vs, permW pm (ws ++ us) = some vs ∧ Post G.N X.K E (RW X.K) B H (cl f vs m) Q := by
  unfold kEnd at h
  split at h
  · exact ⟨_, by assumption, h⟩
  · exact h.elim
variable {kws : List Keyword} {fk : Env → Mem → R (List W)} {pm : List Pk}
theorem s_callK (K : Cok G cl k X E C) {f : Nat} {F : FnD} {x : Str} {p : Pos} (hF : G.df f = some F) (hat : F.d.at_ = (x, none)) (hg : gloB C x = true) (hd : dbg x = true) (hl : PA X (a :: es) (DL G X E fl)) (hn : Len fl (a :: es).length) (hs : ∀ e ∈ a :: es, noStar e = true)
    (hkl : PK X kws (DL G X E fk)) (hkn : Len fk kws.length) (hka : (kws.all fun k => k.arg.isSome) = true) (hsh : (⟨f, (a :: es).length, kwNs kws, pm⟩ : Shp) ∈ G.KS) :
    PE X (.Call (.Name x p) (a :: es) kws pos) (DW G X E fun e m => (fl e m).bind fun ws m1 => (fk e m1).bind fun us m2 => kEnd cl f pm ws us m2) := by
  obtain ⟨fd, kp, hb', hkb, hok⟩ := K.fns f F hF
  obtain ⟨hlen, g, gV, hb, hrel⟩ := hkb _ _ _ hsh
  have ead : He.fAd X.K F.d.at_ = He.ga X.K x := by rw [hat] <;> rfl
  rw [ead] at kp hok
  refine PE_imp (pe_callN hok (K.room.mono (Nat.le_succ k)) (glo_of K.sc hg) (K.tab.fg f F x hF hat) kp hb K.passes hl hkl (kw_all hka) kw_ks (dbg_of hd) (star_cons (hs a List.mem_cons_self)) (kw_pl (stars hs).1 hka)) ?_
  rintro σ H Q ⟨B, m, e, rm, re, h⟩
  refine ⟨B, m, e, rm, re, (Post.list hn h).imp fun xs H1 ⟨B1, m1, ws, hw, g1, rm1, rs, h1⟩ => ⟨B1, m1, e, rm1, re.grow g1, (Post.list hkn h1).imp fun zs H2 ⟨B2, m2, us, hu, g2, rm2, rz, h2⟩ => ?_⟩⟩
  obtain ⟨vs, hv, h3⟩ := kEnd_some h2
  have rs2 := Reps.grow g2 _ _ rs
  exact ⟨rs2.length.trans hw, rz.length.trans (hu.trans (kw_len hka).symm), B2, m2, vs, rm2, hrel _ _ _ _ _ _ _ rs2 rz hv, (optList_len hv).trans hlen, h3⟩

theorem s_callK0 (K : Cok G cl k X E C) {f : Nat} {F : FnD} {x : Str} {p : Pos} (hF : G.df f = some F) (hat : F.d.at_ = (x, none)) (hg : gloB C x = true) (hd : dbg x = true)
    (hkl : PK X kws (DL G X E fk)) (hkn : Len fk kws.length) (hka : (kws.all fun k => k.arg.isSome) = true) (hsh : (⟨f, 0, kwNs kws, pm⟩ : Shp) ∈ G.KS) :
    PE X (.Call (.Name x p) [] kws pos) (DW G X E fun e m => (fk e m).bind fun us m2 => kEnd cl f pm [] us m2) := by
  obtain ⟨fd, kp, hb', hkb, hok⟩ := K.fns f F hF
  obtain ⟨hlen, g, gV, hb, hrel⟩ := hkb _ _ _ hsh
  have ead : He.fAd X.K F.d.at_ = He.ga X.K x := by rw [hat] <;> rfl
  rw [ead] at kp hok
  refine ⟨fun pins s σ H Q I ⟨B, m, e, rm, re, h⟩ => ?_⟩
  refine wpAny_Call_Name_kw (ld_glob I (glo_of K.sc hg) (K.tab.fg f F x hF hat) ?_ (dbg_of hd))
  refine PySem.W.callWith_KW0 (h₀ := X.base) I.ok.mod.kin kp (kw_all hka) ?_ (kw_pl rfl hka)
  refine thn (hkl.run pos pins s σ H _ I ⟨B, m, e, rm, re, Post.list hkn h⟩) fun ws s2 ⟨zs, H2, I2, rz0, B2, m2, us, hu, g2, rm2, rz, h2⟩ => ⟨I2.kIn, ?_⟩
  rw [kw_ks]
  obtain ⟨vs, hv, h3⟩ := kEnd_some h2
  exact run_fnN (us := []) (vs := []) hok (K.room.mono (Nat.le_succ k)) hb K.passes I2 .nil rz0 rfl (rz.length.trans (hu.trans (kw_len hka).symm)) ⟨B2, m2, vs, rm2, hrel _ _ _ _ _ _ _ .nil rz hv, (optList_len hv).trans hlen, h3⟩

theorem meth_htK {env : PySem.Env} {m : Str} {ap cp : Pos} (ho : noSup o = true) (hl : (ap.endLine == cp.line) = true) (hka : (kws.all fun k => k.arg.isSome) = true) (hz : kws.length < 25) :
    eval (.Call (.Attribute o m ap) [] kws cp) env = (do
      let ov ← eval o env
      standAt ap.atName
      let (f, first) ← holding [ov] (getMethod ov m (plainOf o env))
      callWith cp f first (backTo cp (starEach [] env)) (backToKw cp (keywordEach kws env))) := by
  rw [arm_eval_Call, noSup_base ho]
  have hf : methodCallForm (([] : List Expr).length + kws.length) (backTo cp (starEach [] env)) (backToKw cp (keywordEach kws env)) = true := by
    unfold methodCallForm
    have h1 := kw_all (env := env) (pos := cp) hka
    have hz' : kws.length < 30 := by omega
    simp [h1, hz', starEach, backTo]
    split <;> omega
  simp only [mcall_line hf hl]
def methKF (T : Tab) (cl : Caller) (n : Nat) (fr : Env → Mem → R W) (fl fk : Env → Mem → R (List W)) (pm : List Pk) : Env → Mem → R W := fun e m => (fr e m).bind fun w m1 => match w with
    | .obj k => match m1[k]? with
      | some (.ins c _) => match T.cl c with
        | some C => match C.meths.lookup n with
          | some f => (fl e m1).bind fun ws m2 => (fk e m2).bind fun us m3 => match permW pm (w :: (ws ++ us)) with
            | some vs => cl f vs m3
            | none => .bad
          | none => .bad
        | none => .bad
      | _ => .bad
    | _ => .bad

theorem meth_callK {pl : Sem Bool} {m : Str} {ap cp : Pos} {pins : List (Addr × Obj)} {s : Shared} {σ : L2.St} {H : Hp} {Q : Value → Shared → Prop} {te : TE} (he : PE X o te) (I : Inv X pins σ H s)
    (h : te σ H fun x H1 => ∃ ad D dx fs g, x = .ref ad ∧ H1 ad = some (.ins D dx fs) ∧ Cls X.K D ∧ Meth X.K D m g ∧ fs.lookup m = none ∧
      ∀ s1, Inv X pins σ H1 s1 → wpAny (model X.prog X.w) X.A (callWith cp (.ref g) [.ref ad] (backTo cp (starEach [] X.env)) (backToKw cp (keywordEach kws X.env))) Q X.xe s1)
    (ht : eval (.Call (.Attribute o m ap) [] kws cp) X.env = (do
      let ov ← eval o X.env
      standAt ap.atName
      let (f, first) ← holding [ov] (getMethod ov m pl)
      callWith cp f first (backTo cp (starEach [] X.env)) (backToKw cp (keywordEach kws X.env)))) :
    wpAny (model X.prog X.w) X.A (eval (.Call (.Attribute o m ap) [] kws cp) X.env) Q X.xe s := by
  refine PySem.W.methodCall_KW (pl := pl) (thn (he.run pins s σ H _ I h) fun u s1 ⟨x, H1, I1, rx, ad, D, dx, fs, g, ex, ea, c, k, l, q⟩ => ?_) ht
  subst ex
  obtain rfl : u = Value.ref ad := rx
  exact getmeth_ok I1 ea c k l (q s1 I1)
theorem s_methK0 (K : Cok G cl k X E C) {n : Nat} {y : Str} {ap cp : Pos} (hy : G.N.mth[n]? = some y) (ho : PE X o (DW G X E fa)) (hos : noSup o = true) (hln : (ap.endLine == cp.line) = true)
    (hkl : PK X kws (DL G X E fk)) (hkn : Len fk kws.length) (hka : (kws.all fun k => k.arg.isSome) = true) (hz : kws.length < 25) (hsh : ∀ (c : Nat) (D : Cl) (f : Nat), G.T.cl c = some D → D.meths.lookup n = some f → (⟨f, 1, kwNs kws, pm⟩ : Shp) ∈ G.KS) :
    PE X (.Call (.Attribute o y ap) [] kws cp) (DW G X E (methKF G.T cl n fa (fun _ m => .ok [] m) fk pm)) := by
  refine ⟨fun pins s σ H Q I ⟨B, m, e, rm, re, h⟩ => ?_⟩
  refine meth_callK (pl := plainOf o X.env) ho I ⟨B, m, e, rm, re, (Post.bind (RR := RW X.K) h).imp fun x H1 ⟨B1, m1, w, g, rm1, rw1, h1⟩ => ?_⟩ (meth_htK hos hln hka hz)
  cases w with
  | obj q =>
    dsimp only at h1
    split at h1
    · rename_i c fs hm
      split at h1
      · rename_i D hT
        split at h1
        · rename_i f hf
          cases rw1 with
          | @obj _ ad hq =>
            obtain ⟨z, dx, gs, D', e1, e2, e3, e4, F⟩ := ins_of K.tab rm1 hq hm
            rw [hT] at e4
            cases e4
            obtain ⟨y', Fd, f1, f2, f3, f4⟩ := F.me n f hf
            rw [hy] at f1
            cases f1
            obtain ⟨fd, kp, hb', hkb, hok⟩ := K.fns f Fd f2
            obtain ⟨hlen, g', gV, hb, hrel⟩ := hkb _ _ _ (hsh c D f hT hf)
            have ead : He.fAd X.K Fd.d.at_ = He.ma X.K (He.ga X.K z) y := by rw [f3] <;> rfl
            rw [ead] at kp hok
            refine ⟨ad, He.ga X.K z, dx, gs, _, rfl, e2, F.cls, f4, e3.no (K.tab.mf y (List.mem_of_getElem? hy)), fun s1 I1 => ?_⟩
            refine PySem.W.callWith_KW0 (first := [.ref ad]) (h₀ := X.base) I1.ok.mod.kin kp (kw_all hka) ?_ (kw_pl rfl hka)
            refine thn (hkl.run cp pins s1 σ H1 _ I1 ⟨B1, m1, e, rm1, re.grow g, Post.list hkn h1⟩) fun ws s2 ⟨zs, H2, I2, rz0, B2, m2, us, hu, g2, rm2, rz, h2⟩ => ⟨I2.kIn, ?_⟩
            rw [kw_ks]
            obtain ⟨vs, hv, h3⟩ := kEnd_some (ws := [.obj q]) h2
            exact run_fnN (us := [.ref ad]) (vs := [.ref ad]) hok (K.room.mono (Nat.le_succ k)) hb K.passes I2 (.cons rfl .nil) rz0 rfl (rz.length.trans (hu.trans (kw_len hka).symm)) ⟨B2, m2, vs, rm2, hrel _ _ _ _ _ _ _ (.cons (.obj (g2.pre _ _ hq)) .nil) rz hv, (optList_len hv).trans hlen, h3⟩
        · exact h1.elim
      · exact h1.elim
    · exact h1.elim
  | _ => exact h1.elim

def makeKF (T : Tab) (cl : Caller) (c : Nat) (fl fk : Env → Mem → R (List W)) (pm : List Pk) : Env → Mem → R W := fun e m => (fl e m).bind fun ws m1 => (fk e m1).bind fun us m2 => match T.cl c with
    | some C => match permW pm (.obj m2.length :: (ws ++ us)) with
      | some vs => (cl C.init vs (m2 ++ [.ins c []])).bind fun w m3 => match w with
        | .non => .ok (.obj m2.length) m3
        | _ => .bad
      | none => .bad
    | none => .bad
/-- .. its __init__ over the parameters' values -/
theorem make_rdK {c : Nat} {x : Str} {D : Cl} {F : FnD} (hx : G.N.cl c = some x) (hF : G.df D.init = some F) {B : List Addr} {m : Mem} {H : Hp} {ws us r : List W} {xs zs : List V} {gV : List V → List V → List V} {Q : VK} (rm : RelM G.N X.K B m H) (rs : Reps X.K B H ws xs) (rz : Reps X.K B H us zs)
    (hrel : ∀ (B : List Addr) (H : Hp) (ws us : List W) (vs zs : List V) (r : List W), Reps X.K B H ws vs → Reps X.K B H us zs → permW pm (ws ++ us) = some r → Reps X.K B H r (gV vs zs)) (hr : permW pm (.obj m.length :: (ws ++ us)) = some r) (hps : r.length = F.ps.length)
    (h : Post G.N X.K E (RW X.K) B H ((cl D.init r (m ++ [.ins c []])).bind fun w m2 => match w with
      | .non => .ok (.obj m.length) m2
      | _ => .bad) Q) (ad dx : Addr) (h1 : H ad = none) (h2 : H dx = none) (h3 : dx ≠ ad) :
    spF G.N X.K cl D.init F.ps.length (gV (.ref ad :: xs) zs) (upd (upd H dx (.own ad)) ad (.ins (He.ga X.K x) dx [])) (fun v H2 => v = .non ∧ Q (.ref ad) H2) E := by
  have rm1 : RelM G.N X.K B m (upd H dx (.own ad)) := rm.side h2
  have g1 : Grow B B H (upd H dx (.own ad)) := grow_none h2
  have h1' : upd H dx (.own ad) ad = none := (upd_ne (Ne.symm h3)).trans h1
  have rm2 := rm1.new (N := G.N) (u := .ins (He.ga X.K x) dx []) (o := .ins c []) h1' ⟨x, dx, [], hx, upd_same, .nil⟩
  have g2 : Grow B (B ++ [ad]) H (upd (upd H dx (.own ad)) ad (.ins (He.ga X.K x) dx [])) := g1.trans (grow_new h1')
  have ro : (B ++ [ad])[m.length]? = some ad := by
    rw [List.getElem?_append_right (by rw [rm.len]; exact Nat.le_refl _), rm.len]
    simp
  refine ⟨B ++ [ad], m ++ [.ins c []], r, rm2, hrel _ _ (.obj m.length :: ws) us _ _ r (.cons (.obj ro) (Reps.grow g2 _ _ rs)) (Reps.grow g2 _ _ rz) hr, hps, (Post.bind (RR := RW X.K) (Post.mono h g2)).imp fun v H2 ⟨B2, m2, w, g, rm3, rw3, h3⟩ => ?_⟩
  split at h3
  · cases rw3
    exact ⟨rfl, end_w h3 rm3 (.obj (g.pre _ _ ro))⟩
  · exact h3.elim

theorem s_makeK (K : Cok G cl k X E C) {n : Nat} {x : Str} {p : Pos} (hx : G.N.cl n = some x) (hg : gloB C x = true) (hd : dbg x = true) (hl : PA X (a :: es) (DL G X E fl)) (hn : Len fl (a :: es).length) (hs : ∀ e ∈ a :: es, noStar e = true)
    (hkl : PK X kws (DL G X E fk)) (hkn : Len fk kws.length) (hka : (kws.all fun k => k.arg.isSome) = true) (hsh : ∀ D, G.T.cl n = some D → (⟨D.init, (a :: es).length + 1, kwNs kws, pm⟩ : Shp) ∈ G.KS) :
    PE X (.Call (.Name x p) (a :: es) kws pos) (DW G X E (makeKF G.T cl n fl fk pm)) := by
  obtain ⟨D, hD, F⟩ := K.tab.cl n x hx
  obtain ⟨Fd, f1, f2⟩ := F.ini
  obtain ⟨fd, kp, hb', hkb, hok⟩ := K.fns _ Fd f1
  obtain ⟨hlen, g, gV, hb, hrel⟩ := hkb _ _ _ (hsh D hD)
  have ead : He.fAd X.K Fd.d.at_ = He.ma X.K (He.ga X.K x) "__init__" := by rw [f2] <;> rfl
  rw [ead] at kp hok
  refine PE_imp (pe_makeK F.mkr hok K.room (glo_of K.sc hg) F.mgx hb K.passes hl hkl (kw_all hka) kw_ks (dbg_of hd) (star_cons (hs a List.mem_cons_self)) (kw_pl (stars hs).1 hka)) ?_
  rintro σ H Q ⟨B, m, e, rm, re, h⟩
  refine ⟨B, m, e, rm, re, (Post.list hn h).imp fun xs H1 ⟨B1, m1, ws, hw, g1, rm1, rs, h1⟩ => ⟨B1, m1, e, rm1, re.grow g1, (Post.list hkn h1).imp fun zs H2 ⟨B2, m2, us, hu, g2, rm2, rz, h2⟩ => ?_⟩⟩
  have rs2 := Reps.grow g2 _ _ rs
  refine ⟨rs2.length.trans hw, rz.length.trans (hu.trans (kw_len hka).symm), ?_⟩
  rw [hD] at h2
  dsimp only at h2
  split at h2
  · rename_i r hr
    intro ad dx h3 h4 h5
    exact make_rdK hx f1 rm2 rs2 rz hrel hr ((optList_len hr).trans hlen) h2 ad dx h3 h4 h5
  · exact h2.elim

theorem s_makeK0 (K : Cok G cl k X E C) {n : Nat} {x : Str} {p : Pos} (hx : G.N.cl n = some x) (hg : gloB C x = true) (hd : dbg x = true)
    (hkl : PK X kws (DL G X E fk)) (hkn : Len fk kws.length) (hka : (kws.all fun k => k.arg.isSome) = true) (hsh : ∀ D, G.T.cl n = some D → (⟨D.init, 1, kwNs kws, pm⟩ : Shp) ∈ G.KS) :
    PE X (.Call (.Name x p) [] kws pos) (DW G X E (makeKF G.T cl n (fun _ m => .ok [] m) fk pm)) := by
  obtain ⟨D, hD, F⟩ := K.tab.cl n x hx
  obtain ⟨Fd, f1, f2⟩ := F.ini
  obtain ⟨fd, kp, hb', hkb, hok⟩ := K.fns _ Fd f1
  obtain ⟨hlen, g, gV, hb, hrel⟩ := hkb _ _ _ (hsh D hD)
  have ead : He.fAd X.K Fd.d.at_ = He.ma X.K (He.ga X.K x) "__init__" := by rw [f2] <;> rfl
  rw [ead] at kp hok
  refine PE_imp (pe_makeK0 F.mkr hok K.room (glo_of K.sc hg) F.mgx hb K.passes hkl (kw_all hka) kw_ks (dbg_of hd) (kw_pl rfl hka)) ?_
  rintro σ H Q ⟨B, m, e, rm, re, h⟩
  refine ⟨B, m, e, rm, re, (Post.list hkn h).imp fun zs H2 ⟨B2, m2, us, hu, g2, rm2, rz, h2⟩ => ?_⟩
  refine ⟨rfl, rz.length.trans (hu.trans (kw_len hka).symm), ?_⟩
  rw [hD] at h2
  dsimp only at h2
  split at h2
  · rename_i r hr
    intro ad dx h3 h4 h5
    exact make_rdK hx f1 rm2 .nil rz hrel hr ((optList_len hr).trans hlen) h2 ad dx h3 h4 h5
  · exact h2.elim

/-! ### built-ins -/
theorem boot_blt (b : Blt) : bootBuiltins (bltN b) = some (bltV b) := by
  cases b with
  | len => exact boot_len
  | int1 => exact PyProof.Rows.boot_int
  | all => exact boot_all
  | any => exact boot_any
  | min2 => exact boot_min
  | max2 => exact boot_max
  | list => exact PyProof.Rows.boot_list
  | tuple => exact PyProof.Rows.boot_tuple
  | sorted => exact boot_sorted
  | dict1 => exact PyProof.Rows.boot_dict
theorem bltN_in (b : Blt) : bltN b ∈ bltNames := by cases b <;> decide
theorem bltN_nm (b : Blt) : bltN b ≠ "__name__" ∧ (bltN b == ("__debug__" : Str)) = false := by cases b <;> decide
theorem s_blt (K : Cok G cl k X E C) (b : Blt) {p : Pos} (hg : gloB C (bltN b) = true) (hl : PA X (a :: es) (DL G X E fl)) (hs : ∀ e ∈ a :: es, noStar e = true) :
    PE X (.Call (.Name (bltN b) p) (a :: es) [] pos) (DW G X E fun e m => (fl e m).bind fun ws m1 => bltW b ws m1) := by
  have rd : ∀ {σ : L2.St} {H : Hp} {Q : VK}, DW G X E (fun e m => (fl e m).bind fun ws m1 => bltW b ws m1) σ H Q → tCB (RLW G.N X.K E (bltW b)) (DL G X E fl) σ H Q := by
    rintro σ H Q ⟨B, m, e, rm, re, h⟩
    exact ⟨B, m, e, rm, re, (Post.bind (RR := RWs X.K) h).imp fun xs H1 ⟨B1, m1, ws, g, rm1, rs, h1⟩ => ⟨B1, m1, ws, rm1, rs, h1⟩⟩
  have hc := blt_W (N := G.N) (E := E) K.calm b
  have hm := K.tab.bl _ (bltN_in b)
  have hv := boot_blt b
  have n1 := (bltN_nm b).1
  have n2 := (bltN_nm b).2
  have hst : starEach (a :: es) X.env = (false, eval a X.env) :: starEach es X.env := star_cons (hs a List.mem_cons_self)
  have hpl : ∀ ps : Pos, (backTo ps (starEach es X.env)).any (·.1) = false := fun ps => plain_tail hs
  cases b
  all_goals first
    | exact PE_imp (pe_callB hc (glo_of K.sc hg) hm hv hl n1 n2 hst (hpl _)) fun _ _ _ h => rd h
    | exact PE_imp (pe_callTy hc (glo_of K.sc hg) hm hv hl n1 n2 hst (hpl _)) fun _ _ _ h => rd h

/-! ### methods of built-in types -/
theorem lst_ty {B : List Addr} {m : Mem} {H : Hp} {w : W} {x : V} (rm : RelM G.N X.K B m H) (r : Rep X.K B H w x) (h : isLstO m w = true) : TyS X "list" x H := by
  cases r with
  | obj hk =>
    simp only [isLstO] at h
    split at h
    · rename_i hm
      obtain ⟨vs, h1, h2⟩ := rm.lst hk hm
      exact TyS.of (.inl ⟨rfl, vs, SqL.of h1⟩)
    · cases h
  | _ => cases h
theorem str_ty {H : Hp} {B : List Addr} {w : W} {x : V} (r : Rep X.K B H w x) (h : isStrW w = true) : TyS X "str" x H := by
  cases r with
  | str t => exact TyS.of (show "str" = "str" from rfl)
  | _ => cases h
theorem bm_rd {n : Bm} {B : List Addr} {m : Mem} {H : Hp} {w : W} {x : V} (rm : RelM G.N X.K B m H) (r : Rep X.K B H w x) (h : rcvOk n w m = true) :
    ∃ T id, MB X T (bmN n) id (RMW G.N X.K E (bmW n)) ∧ TyS X T x H := by
  cases n with
  | append => exact ⟨"list", "list.append", ⟨PySem.F.plainAttrs_list, PySem.F.slot_list_append, PySem.F.type_list_append, mt_appendW⟩, lst_ty rm r h⟩
  | extend => exact ⟨"list", "list.extend", ⟨PySem.F.plainAttrs_list, PySem.F.slot_list_extend, PySem.F.type_list_extend, mt_extendW⟩, lst_ty rm r h⟩
  | popL => exact ⟨"list", "list.pop", ⟨PySem.F.plainAttrs_list, PySem.F.slot_list_pop, PySem.F.type_list_pop, mt_popLW⟩, lst_ty rm r h⟩
  | popAt => exact ⟨"list", "list.pop", ⟨PySem.F.plainAttrs_list, PySem.F.slot_list_pop, PySem.F.type_list_pop, mt_popAtW⟩, lst_ty rm r h⟩
  | reverse => exact ⟨"list", "list.reverse", ⟨PySem.F.plainAttrs_list, PySem.F.slot_list_reverse, PySem.F.type_list_reverse, mt_reverseW⟩, lst_ty rm r h⟩
  | remove => exact ⟨"list", "list.remove", ⟨PySem.F.plainAttrs_list, PySem.F.slot_list_remove, by rfl, mt_removeW⟩, lst_ty rm r h⟩
  | clear => exact ⟨"list", "list.clear", ⟨PySem.F.plainAttrs_list, PySem.F.slot_list_clear, PySem.F.type_list_clear, mt_clearW⟩, lst_ty rm r h⟩
  | join => exact ⟨"str", "str.join", ⟨PySem.F.plainAttrs_str, PySem.F.slot_str_join, PySem.F.type_str_join, mt_joinW⟩, str_ty r h⟩
  | index => exact ⟨"str", "str.index", ⟨PySem.F.plainAttrs_str, PySem.F.slot_str_index, PySem.F.type_str_index, mt_indexSW⟩, str_ty r h⟩
def bmF (n : Bm) (fa : Env → Mem → R W) (fl : Env → Mem → R (List W)) : Env → Mem → R W := fun e m => (fa e m).bind fun w m1 => if rcvOk n w m1 then (fl e m1).bind fun ws m2 => bmW n w ws m2 else .bad
theorem s_bm (n : Bm) {ap cp : Pos} (ho : PE X o (DW G X E fa)) (hos : noSup o = true) (hln : (ap.endLine == cp.line) = true) (hl : PA X (a :: es) (DL G X E fl)) (hs : ∀ e ∈ a :: es, noStar e = true) (hz : (a :: es).length < 25) :
    PE X (.Call (.Attribute o (bmN n) ap) (a :: es) [] cp) (DW G X E (bmF n fa fl)) := by
  have hf : ((backTo cp (starEach (a :: es) X.env)).all (fun x => !x.1) && (backToKw cp (keywordEach [] X.env)).all (fun x => x.1.isSome)
      && decide ((a :: es).length + ([] : List Keyword).length + (if ([] : List Keyword).isEmpty then 0 else 1) < 30)) = true := by
    rw [(stars (env := X.env) (pos := cp) hs).2]
    have hz' : (a :: es).length < 30 := by omega
    simpa [backToKw, keywordEach] using hz'
  refine PE_imp (pe_bmW ho hl (noSup_base hos) hf hln (star_cons (hs a List.mem_cons_self)) (plain_tail hs)) ?_
  rintro σ H Q ⟨B, m, e, rm, re, h⟩
  refine ⟨B, m, e, rm, re, (Post.bind (RR := RW X.K) h).imp fun x H1 ⟨B1, m1, w, g, rm1, rw1, h1⟩ => ?_⟩
  split at h1
  · rename_i hr
    obtain ⟨T, id, mb, ty⟩ := bm_rd (E := E) rm1 rw1 hr
    exact ⟨T, id, _, mb, ty, B1, m1, e, rm1, re.grow g, (Post.bind (RR := RWs X.K) h1).imp fun xs H2 ⟨B2, m2, ws, g2, rm2, rs, h2⟩ => ⟨B2, m2, w, ws, rm2, Rep.grow g2 _ _ rw1, rs, h2⟩⟩
  · exact h1.elim
theorem s_bm0 (n : Bm) {ap cp : Pos} (ho : PE X o (DW G X E fa)) (hos : noSup o = true) (hln : (ap.endLine == cp.line) = true) : PE X (.Call (.Attribute o (bmN n) ap) [] [] cp) (DW G X E (bmF n fa fun _ m => .ok [] m)) := by
  refine PE_imp (pe_bm0W ho (noSup_base hos) hln) ?_
  rintro σ H Q ⟨B, m, e, rm, re, h⟩
  refine ⟨B, m, e, rm, re, (Post.bind (RR := RW X.K) h).imp fun x H1 ⟨B1, m1, w, g, rm1, rw1, h1⟩ => ?_⟩
  split at h1
  · rename_i hr
    obtain ⟨T, id, mb, ty⟩ := bm_rd (E := E) rm1 rw1 hr
    exact ⟨T, id, _, mb, ty, B1, m1, w, [], rm1, rw1, .nil, h1⟩
  · exact h1.elim
/-! ### sets of pairs of ints, at once read -/
theorem cr_lenSetT : CallR X (.builtin "len") (fun xs H Q => ∃ a L, xs = [V.ref a] ∧ H a = some (SetTO X.prog X.w a L) ∧ (∀ p ∈ L, SqT X.K H p.1 (p.2.map V.int)) ∧ ((L.map (·.2)).Nodup → Q (.int (L.length : Nat)) H)) := by
  intro pins s σ H xs us Q I r h
  obtain ⟨a, L, rfl, ha, ht, q⟩ := h
  rw [Vals.ref1 r]
  have R0 : SetT0 X.prog X.w s.heap a L := (I.hok a _ ha).1
  obtain ⟨es, ep, t, R⟩ := R0.full fun p hp => I.isT (ht p hp)
  obtain ⟨o, ho, hex, hd⟩ := R.ob
  have hn : es.size = L.length := R.size (s := s)
  have hfw : L.length < 64 := R.few
  refine call_len_set ho hex hd (R.fits (s := s)) (by rw [hn]; omega) ⟨.int (L.length : Nat), H, I.tok _, ⟨_, by rw [hn]⟩, q R.nd⟩
theorem set_ty {w : W} {m1 : Mem} {us : List W} {B1 : List Addr} {H1 : Hp} {x : V} (rm1 : RelM G.N X.K B1 m1 H1) (rw1 : Rep X.K B1 H1 w x) (e : seqW m1 w = some us) (hk : setOk us = true) : ∃ (l : Addr) (ks : List (Addr × List Int)), x = V.ref l ∧ (SqL X.K H1 l (ks.map fun p => V.ref p.1) ∨ SqT X.K H1 l (ks.map fun p => V.ref p.1)) ∧ us = ks.map (fun p => tupW p.2) ∧ ks.length < 64 ∧ ∀ p ∈ ks, SqT X.K H1 p.1 (p.2.map V.int) ∧ p.2.length = 2 ∧ TS.Bd SB p.2 := by
  unfold setOk at hk
  rw [Bool.and_eq_true, decide_eq_true_eq] at hk
  obtain ⟨l, vs, rfl, hl, hr⟩ := seqW_sq rm1 rw1 e
  obtain ⟨ks, rfl, rfl, h3⟩ := setOk_v hk.2 hr
  exact ⟨l, ks, rfl, hl.imp (·.1) (·.1), rfl, by simpa using hk.1, h3⟩
theorem sqt_up {H : Hp} {a p : Addr} {u : HO} {xs : List V} (h : SqT X.K H p xs) (ha : H a = none) : SqT X.K (upd H a u) p xs := Grow.sqT (grow_none (B := []) ha) h
theorem s_lset (K : Cok G cl k X E C) {p p2 q : Pos} (h1 : gloB C "len" = true) (h2 : gloB C "set" = true) (ha : PE X a (DW G X E fa)) (hs : noStar a = true) : PE X (.Call (.Name "len" p) [.Call (.Name "set" p2) [a] [] q] [] pos) (DW G X E fun e m => (fa e m).bind fun w m1 => lsetW w m1) := by
  have inner : PE X (.Call (.Name "set" p2) [a] [] q) _ := pe_callTy (cr_setOfT2 K.calm (by have := K.room.un; omega)) (glo_of K.sc h2) (K.tab.bl _ (by decide)) PyProof.Rows.boot_set (pa_cons ha pa_nil (star_cons hs)) (by decide) (by decide) (star_cons hs) rfl
  refine PE_imp (pe_callB cr_lenSetT (glo_of K.sc h1) (K.tab.bl _ (by decide)) boot_len (pa_cons inner pa_nil rfl) (by decide) (by decide) rfl rfl) ?_
  rintro σ H Q ⟨B, m, e, rm, re, h⟩
  refine ⟨B, m, e, rm, re, (Post.bind (RR := RW X.K) h).imp fun x H1 ⟨B1, m1, w, g, rm1, rw1, h1⟩ => ?_⟩
  unfold lsetW at h1
  split at h1
  · rename_i us eu
    split at h1
    · rename_i hk
      obtain ⟨l, ks, rfl, hl, rfl, hf, h3⟩ := set_ty rm1 rw1 eu hk
      refine ⟨l, ks, rfl, hl, fun p hp => (h3 p hp).1, hf, fun b L hb c1 c2 => ?_⟩
      refine ⟨b, L, rfl, upd_same, fun p hp => sqt_up (h3 p (c1 p hp)).1 hb, fun nd => ?_⟩
      have pm := dedup_perm (fun p hp => (h3 p hp).2) c1 c2 nd
      have el : L.length = (dedupW (ks.map fun p => tupW p.2)).length := by rw [← pm.length_eq, List.length_map]
      rw [el]
      exact h1 B1 _ _ (grow_none hb) (rm1.side hb) (.int _)
    · exact h1.elim
  · exact h1.elim
theorem s_sset (K : Cok G cl k X E C) {p p2 q : Pos} (h1 : gloB C "sorted" = true) (h2 : gloB C "set" = true) (ha : PE X a (DW G X E fa)) (hs : noStar a = true) : PE X (.Call (.Name "sorted" p) [.Call (.Name "set" p2) [a] [] q] [] pos) (DW G X E fun e m => (fa e m).bind fun w m1 => ssetW w m1) := by
  have inner : PE X (.Call (.Name "set" p2) [a] [] q) _ := pe_callTy (cr_setOfT2 K.calm (by have := K.room.un; omega)) (glo_of K.sc h2) (K.tab.bl _ (by decide)) PyProof.Rows.boot_set (pa_cons ha pa_nil (star_cons hs)) (by decide) (by decide) (star_cons hs) rfl
  refine PE_imp (pe_callB (cr_sortedT K.calm) (glo_of K.sc h1) (K.tab.bl _ (by decide)) boot_sorted (pa_cons inner pa_nil rfl) (by decide) (by decide) rfl rfl) ?_
  rintro σ H Q ⟨B, m, e, rm, re, h⟩
  refine ⟨B, m, e, rm, re, (Post.bind (RR := RW X.K) h).imp fun x H1 ⟨B1, m1, w, g, rm1, rw1, h1⟩ => ?_⟩
  unfold ssetW at h1
  split at h1
  · rename_i us eu
    split at h1
    · rename_i hk
      obtain ⟨l, ks, rfl, hl, rfl, hf, h3⟩ := set_ty rm1 rw1 eu hk
      refine ⟨l, ks, rfl, hl, fun p hp => (h3 p hp).1, hf, fun b L hb c1 c2 => ?_⟩
      refine ⟨b, L, 2, SB, rfl, upd_same, fun p hp => sqt_up (h3 p (c1 p hp)).1 hb, by decide, fun p hp => (h3 p (c1 p hp)).2, fun L' p pm nd hl' pw hp => ?_⟩
      have ndL : (L.map (·.2)).Nodup := (pm.map (·.2)).nodup_iff.mp nd
      have pm2 := dedup_perm (fun p hp => (h3 p hp).2) c1 c2 ndL
      have e1 : (L'.map fun p => tupW p.2) = srtB codeW (dedupW (ks.map fun p => tupW p.2)) := by
        refine srtB_uniq ((pm.map _).trans pm2) ?_ fun x hx y hy exy => ?_
        · rw [List.pairwise_map]
          refine List.Pairwise.imp (fun {a b} hab => ?_) pw
          rw [codeW_tupW, codeW_tupW]
          exact hab
        · obtain ⟨p1, hp1, rfl⟩ := List.mem_map.mp (dedup_sub hx)
          obtain ⟨p2, hp2, rfl⟩ := List.mem_map.mp (dedup_sub hy)
          rw [codeW_tupW, codeW_tupW] at exy
          rw [code2_inj (h3 p1 hp1).2.1 (h3 p2 hp2).2.1 (h3 p1 hp1).2.2 (h3 p2 hp2).2.2 exy]
      rw [← e1] at h1
      have hp0 : upd H1 b (SetTO X.prog X.w b L) p = none := hp
      have rr : ∀ {M : List (Addr × List Int)}, (∀ p ∈ M, SqT X.K (upd H1 b (SetTO X.prog X.w b L)) p.1 (p.2.map V.int)) → Reps X.K B1 (upd H1 b (SetTO X.prog X.w b L)) (M.map fun p => tupW p.2) (M.map fun p => V.ref p.1) := by
        intro M hM
        induction M with
        | nil => exact .nil
        | cons p M ih => exact .cons (.tup (hM p List.mem_cons_self) (Reps.ints p.2)) (ih fun q hq => hM q (List.mem_cons_of_mem _ hq))
      exact end_lst (Post.mono h1 (grow_none hb)) (rm1.side hb) (rr fun p hp => sqt_up (h3 p (c1 p (pm.mem_iff.mp hp))).1 hb) hp0
    · exact h1.elim
  · exact h1.elim
end
end Mi
end

section
set_option Elab.async false
set_option linter.all false
set_option maxRecDepth 100000
set_option maxHeartbeats 4000000
/-! MiJ: isinstance; targets; what is walked. -/
namespace Mi
open PySem PySem.Spec PyProof.Rows L2

section
variable {G : Dat} {cl : Caller} {k : Nat} {X : Cx} {E : XK} {C : Sco} {fa fb fc : Env → Mem → R W} {fl : Env → Mem → R (List W)} {a b c o : Expr} {es : List Expr} {pos : Pos}
/-! ### isinstance -/
def tyNs : List String := ["NoneType", "bool", "int", "str", "tuple", "list", "dict"]
def kdNs : List (Kd × String) := [(.str, "str"), (.int, "int"), (.bool, "bool"), (.tuple, "tuple"), (.list, "list"), (.dict, "dict")]
theorem kit_tab : (tyNs.all fun a => kdNs.all fun b => decide (kitB a b.2 = some (a == b.2 || (a == "bool" && b.2 == "int")))) = true := by decide +kernel
theorem kit_at {a b : String} {k : Kd} {r : Bool} (ha : a ∈ tyNs) (hb : (k, b) ∈ kdNs) (hr : (a == b || (a == "bool" && b == "int")) = r) : kitB a b = some r := by
  have h := List.all_eq_true.mp (List.all_eq_true.mp kit_tab a ha) (k, b) hb
  rw [← hr]
  exact of_decide_eq_true h
def kdS (a : String) : Kd → Bool
  | .str => a == "str" | .int => a == "int" || a == "bool" | .bool => a == "bool" | .tuple => a == "tuple" | .list => a == "list" | .dict => a == "dict" | .cls _ => false
theorem kit_ask (T : TabOk G X.K X.mg) {a : String} (ha : a ∈ tyNs) (k : Kd) (hk : ∀ d, k = .cls d → ∃ y, G.N.cl d = some y) :
    PySem.W.kitOne X.K (.type a) (kdV G.N X.K k) = some (kdS a k) := by
  have h6 : a = "NoneType" ∨ a = "bool" ∨ a = "int" ∨ a = "str" ∨ a = "tuple" ∨ a = "list" ∨ a = "dict" := by simpa [tyNs] using ha
  cases k with
  | cls c => obtain ⟨y, hy⟩ := hk c rfl; exact T.kt a c y ha hy
  | str => exact kit_ty (kit_at (k := .str) ha (by decide) (by rcases h6 with rfl | rfl | rfl | rfl | rfl | rfl | rfl <;> decide))
  | int => exact kit_ty (kit_at (k := .int) ha (by decide) (by rcases h6 with rfl | rfl | rfl | rfl | rfl | rfl | rfl <;> decide))
  | bool => exact kit_ty (kit_at (k := .bool) ha (by decide) (by rcases h6 with rfl | rfl | rfl | rfl | rfl | rfl | rfl <;> decide))
  | tuple => exact kit_ty (kit_at (k := .tuple) ha (by decide) (by rcases h6 with rfl | rfl | rfl | rfl | rfl | rfl | rfl <;> decide))
  | list => exact kit_ty (kit_at (k := .list) ha (by decide) (by rcases h6 with rfl | rfl | rfl | rfl | rfl | rfl | rfl <;> decide))
  | dict => exact kit_ty (kit_at (k := .dict) ha (by decide) (by rcases h6 with rfl | rfl | rfl | rfl | rfl | rfl | rfl <;> decide))
theorem tupX {K : PySem.W.Frag} {H : Hp} {a : Addr} {xs : List V} (h : SqT K H a xs) : TyX K H (.ref a) (.type "tuple") := by
  rcases h with (h | ⟨o, h⟩) | ⟨o, its, n, h1, h2, _⟩
  · exact .base (.tup h)
  · exact .fTuple h
  · exact .kTuple h1 h2
theorem frzX {K : PySem.W.Frag} {H : Hp} {a : Addr} {xs : List V} (h : FzL K H a xs) : TyX K H (.ref a) (.type "list") := by
  rcases h with ⟨o, h⟩ | ⟨o, its, n, h1, h2, _⟩
  · exact .base (.frz h)
  · exact .kList h1 h2
theorem isi_rd (T : TabOk G X.K X.mg) {B : List Addr} {m : Mem} {H : Hp} {w : W} {x : V} {k : Kd} {r : Bool} (hk : ∀ d, k = .cls d → ∃ y, G.N.cl d = some y) (rm : RelM G.N X.K B m H) (rw' : Rep X.K B H w x) (h : kdW m k w = some r) :
    ∃ t, TyX X.K H x t ∧ PySem.W.kitOne X.K t (kdV G.N X.K k) = some r := by
  cases rw' with
  | non =>
    cases h
    refine ⟨_, .base .non, (kit_ask T (by decide) k hk).trans ?_⟩
    cases k <;> rfl
  | bl b =>
    cases h
    refine ⟨_, .base (.bl b), (kit_ask T (by decide) k hk).trans ?_⟩
    cases k <;> rfl
  | int i =>
    cases h
    refine ⟨_, .base (.int i), (kit_ask T (by decide) k hk).trans ?_⟩
    cases k <;> rfl
  | str y =>
    cases h
    refine ⟨_, .base (.str _), (kit_ask T (by decide) k hk).trans ?_⟩
    cases k <;> rfl
  | tup h1 h2 =>
    cases h
    refine ⟨_, tupX h1, (kit_ask T (by decide) k hk).trans ?_⟩
    cases k <;> rfl
  | frz h1 =>
    cases h
    refine ⟨_, frzX h1, (kit_ask T (by decide) k hk).trans ?_⟩
    cases k <;> rfl
  | @obj j ad hj =>
    simp only [kdW] at h
    split at h
    · rename_i hm
      cases h
      obtain ⟨vs, h1, h2⟩ := rm.lst hj hm
      refine ⟨_, .base (.lst h1), (kit_ask T (by decide) k hk).trans ?_⟩
      cases k <;> rfl
    · rename_i hm
      cases h
      obtain ⟨ks, h1, h2⟩ := rm.dct hj hm
      refine ⟨_, .base (.dK h1), (kit_ask T (by decide) k hk).trans ?_⟩
      cases k <;> rfl
    · rename_i hm
      cases h
      obtain ⟨a', q1, o, ks, q2, q3⟩ := rm.ob _ _ hm
      rw [hj] at q1
      cases q1
      refine ⟨_, .fDict q2, (kit_ask T (by decide) k hk).trans ?_⟩
      cases k <;> rfl
    · rename_i c' fs hm
      cases h
      obtain ⟨z, dx, gs, D, e1, e2, e3, e4, F⟩ := ins_of T rm hj hm
      have e0 : kdV G.N X.K (.cls c') = .ref (He.ga X.K z) := by
        show Value.ref (He.ga X.K ((G.N.cl c').getD "")) = _
        rw [e1] <;> rfl
      refine ⟨_, .base (.ins e2 F.cls F.ty.ha F.ty.hn F.ty.htk F.ty.hm), ?_⟩
      rw [← e0]
      have q := T.kc c' k z e1 hk
      exact q
    · cases h
theorem kd_val (K : Cok G cl k X E C) {kd : Kd} {y : Str} {p : Pos} (hy : kdN G.N kd = some y) (hg : gloB C y = true) (hd : dbg y = true) : ∃ v, PE X (.Name y p) (tC v) ∧ ClsV v (kdV G.N X.K kd) := by
  have g := glo_of K.sc hg
  have d := dbg_of hd
  cases kd with
  | cls c =>
    obtain ⟨D, _, F⟩ := K.tab.cl c y hy
    have e : kdV G.N X.K (.cls c) = .ref (He.ga X.K y) := by
      show Value.ref (He.ga X.K ((G.N.cl c).getD "")) = _
      rw [show G.N.cl c = some y from hy] <;> rfl
    rw [e]
    exact ⟨.ref (He.ga X.K y), pe_glob g F.mgx rfl d, .own _⟩
  | str => cases hy; exact ⟨.ty "str", pe_bltn g (K.tab.bl _ (by decide)) PyProof.Rows.boot_str rfl (by decide) d, .ty _⟩
  | int => cases hy; exact ⟨.ty "int", pe_bltn g (K.tab.bl _ (by decide)) PyProof.Rows.boot_int rfl (by decide) d, .ty _⟩
  | bool => cases hy; exact ⟨.ty "bool", pe_bltn g (K.tab.bl _ (by decide)) PyProof.Rows.boot_bool rfl (by decide) d, .ty _⟩
  | tuple => cases hy; exact ⟨.ty "tuple", pe_bltn g (K.tab.bl _ (by decide)) PyProof.Rows.boot_tuple rfl (by decide) d, .ty _⟩
  | list => cases hy; exact ⟨.ty "list", pe_bltn g (K.tab.bl _ (by decide)) PyProof.Rows.boot_list rfl (by decide) d, .ty _⟩
  | dict => cases hy; exact ⟨.ty "dict", pe_bltn g (K.tab.bl _ (by decide)) PyProof.Rows.boot_dict rfl (by decide) d, .ty _⟩
theorem s_isi (K : Cok G cl k X E C) {kd : Kd} {y : Str} {p1 p2 : Pos} (h1 : gloB C "isinstance" = true) (hy : kdN G.N kd = some y) (h2 : gloB C y = true) (h3 : dbg y = true) (ha : PE X a (DW G X E fa)) (hs : noStar a = true) :
    PE X (.Call (.Name "isinstance" p1) [a, .Name y p2] [] pos) (DW G X E fun e m => (fa e m).bind fun w m1 => isiW m1 w [kd]) := by
  obtain ⟨v, hv, cv⟩ := kd_val (p := p2) K hy h2 h3
  have hk : ∀ d, kd = .cls d → ∃ y, G.N.cl d = some y := fun d e => by
    subst e
    exact ⟨y, hy⟩
  refine PE_imp (pe_callB call_isi (glo_of K.sc h1) (K.tab.bl _ (by decide)) PyProof.Rows.boot_isinstance (pa_cons ha (pa_cons hv pa_nil) (star_cons hs)) (by decide) (by decide) (star_cons hs) rfl) ?_
  rintro σ H Q ⟨B, m, e, rm, re, h⟩
  refine ⟨B, m, e, rm, re, (Post.bind (RR := RW X.K) h).imp fun x H1 ⟨B1, m1, w, g, rm1, rw1, h1⟩ => ?_⟩
  obtain ⟨r, er, h1⟩ := Post.ofO h1
  simp only [optL] at er
  cases q : kdW m1 kd w with
  | none => rw [q] at er; cases er
  | some bb =>
    rw [q] at er
    cases er
    obtain ⟨t, t1, t2⟩ := isi_rd K.tab hk rm1 rw1 q
    refine ⟨x, v, t, _, bb, rfl, cv, t1, t2, ?_⟩
    have e0 : ([bb].any id) = bb := by cases bb <;> rfl
    have h2 : Post G.N X.K E (RW X.K) B1 H1 (.ok (.bl bb) m1) Q := by
      have h3 : Post G.N X.K E (RW X.K) B1 H1 (.ok (.bl ([bb].any id)) m1) Q := h1
      rw [e0] at h3
      exact h3
    exact end_w h2 rm1 (.bl _)

/-- of what type a thing is, asked of any kind -/
theorem isi_rdA (T : TabOk G X.K X.mg) {B : List Addr} {m : Mem} {H : Hp} {w : W} {x : V} (rm : RelM G.N X.K B m H) (rw' : Rep X.K B H w x) {k0 : Kd} {r0 : Bool} (h0 : kdW m k0 w = some r0) :
    ∃ t, TyX X.K H x t ∧ ∀ (k : Kd) (r : Bool), (∀ d, k = .cls d → ∃ y, G.N.cl d = some y) → kdW m k w = some r → PySem.W.kitOne X.K t (kdV G.N X.K k) = some r := by
  cases rw' with
  | non =>
    refine ⟨_, .base .non, fun k r hk h => ?_⟩
    cases h
    refine (kit_ask T (by decide) k hk).trans ?_
    cases k <;> rfl
  | bl b =>
    refine ⟨_, .base (.bl b), fun k r hk h => ?_⟩
    cases h
    refine (kit_ask T (by decide) k hk).trans ?_
    cases k <;> rfl
  | int i =>
    refine ⟨_, .base (.int i), fun k r hk h => ?_⟩
    cases h
    refine (kit_ask T (by decide) k hk).trans ?_
    cases k <;> rfl
  | str y =>
    refine ⟨_, .base (.str _), fun k r hk h => ?_⟩
    cases h
    refine (kit_ask T (by decide) k hk).trans ?_
    cases k <;> rfl
  | tup h1 h2 =>
    refine ⟨_, tupX h1, fun k r hk h => ?_⟩
    cases h
    refine (kit_ask T (by decide) k hk).trans ?_
    cases k <;> rfl
  | frz h1 =>
    refine ⟨_, frzX h1, fun k r hk h => ?_⟩
    cases h
    refine (kit_ask T (by decide) k hk).trans ?_
    cases k <;> rfl
  | @obj j ad hj =>
    cases hm : m[j]? with
    | none => simp only [kdW, hm] at h0; cases h0
    | some ob =>
      cases ob with
      | lst ws =>
        obtain ⟨vs, h1, h2⟩ := rm.lst hj hm
        refine ⟨_, .base (.lst h1), fun k r hk h => ?_⟩
        simp only [kdW, hm] at h
        cases h
        refine (kit_ask T (by decide) k hk).trans ?_
        cases k <;> rfl
      | dct kvs =>
        obtain ⟨ks, h1, h2⟩ := rm.dct hj hm
        refine ⟨_, .base (.dK h1), fun k r hk h => ?_⟩
        simp only [kdW, hm] at h
        cases h
        refine (kit_ask T (by decide) k hk).trans ?_
        cases k <;> rfl
      | dcl kvs =>
        obtain ⟨a', z1, o, ks, z2, z3⟩ := rm.ob _ _ hm
        rw [hj] at z1
        cases z1
        refine ⟨_, .fDict z2, fun k r hk h => ?_⟩
        simp only [kdW, hm] at h
        cases h
        refine (kit_ask T (by decide) k hk).trans ?_
        cases k <;> rfl
      | ins c' fs =>
        obtain ⟨z, dx, gs, D, e1, e2, e3, e4, F⟩ := ins_of T rm hj hm
        have e0 : kdV G.N X.K (.cls c') = .ref (He.ga X.K z) := by
          show Value.ref (He.ga X.K ((G.N.cl c').getD "")) = _
          rw [e1] <;> rfl
        refine ⟨_, .base (.ins e2 F.cls F.ty.ha F.ty.hn F.ty.htk F.ty.hm), fun k r hk h => ?_⟩
        simp only [kdW, hm] at h
        cases h
        rw [← e0]
        exact T.kc c' k z e1 hk
theorem s_isi2 (K : Cok G cl k X E C) {k1 k2 : Kd} {y z : Str} {p1 p2 p3 p4 : Pos} {kk : Nat} (h1 : gloB C "isinstance" = true) (hy : kdN G.N k1 = some y) (h2 : gloB C y = true) (h3 : dbg y = true) (hz : kdN G.N k2 = some z) (h4 : gloB C z = true) (h5 : dbg z = true) (ha : PE X a (DW G X E fa)) (hs : noStar a = true) :
    PE X (.Call (.Name "isinstance" p1) [a, .Tuple [.Name y p2, .Name z p3] kk p4] [] pos) (DW G X E fun e m => (fa e m).bind fun w m1 => isiW m1 w [k1, k2]) := by
  obtain ⟨v, hv, cv⟩ := kd_val (p := p2) K hy h2 h3
  obtain ⟨u, hu, cu⟩ := kd_val (p := p3) K hz h4 h5
  have hk1 : ∀ d, k1 = .cls d → ∃ y, G.N.cl d = some y := fun d e => by
    subst e
    exact ⟨y, hy⟩
  have hk2 : ∀ d, k2 = .cls d → ∃ y, G.N.cl d = some y := fun d e => by
    subst e
    exact ⟨z, hz⟩
  refine PE_imp (pe_callB call_isiT (glo_of K.sc h1) (K.tab.bl _ (by decide)) PyProof.Rows.boot_isinstance (pa_cons ha (pa_cons (pe_tup (pa_cons hv (pa_cons hu pa_nil))) pa_nil) (star_cons hs)) (by decide) (by decide) (star_cons hs) rfl) ?_
  rintro σ H Q ⟨B, m, e, rm, re, h⟩
  refine ⟨B, m, e, rm, re, (Post.bind (RR := RW X.K) h).imp fun x H1 ⟨B1, m1, w, g, rm1, rw1, h1⟩ => ?_⟩
  obtain ⟨r, er, h1⟩ := Post.ofO h1
  simp only [optL] at er
  cases q1 : kdW m1 k1 w with
  | none => rw [q1] at er; cases er
  | some b1 =>
    cases q2 : kdW m1 k2 w with
    | none => rw [q1, q2] at er; cases er
    | some b2 =>
      rw [q1, q2] at er
      cases er
      refine ⟨show 2 ≤ sizeLine by decide, fun T hT => ?_⟩
      obtain ⟨t, t1, t2⟩ := isi_rdA K.tab (rm1.side (u := .tup [v, u]) hT) (Rep.grow (grow_none hT) _ _ rw1) q1
      have z1 := t2 k1 b1 hk1 q1
      have z2 := t2 k2 b2 hk2 q2
      refine ⟨x, T, [v, u], t, _, b1 || b2, rfl, upd_same, .cons cv (.cons cu .nil), t1, ?_, ?_⟩
      · simp only [PySem.W.kitAny, z1, z2]
        cases b1 <;> cases b2 <;> rfl
      · have e0 : ([b1, b2].any id) = (b1 || b2) := by cases b1 <;> cases b2 <;> rfl
        have h2 : Post G.N X.K E (RW X.K) B1 H1 (.ok (.bl ([b1, b2].any id)) m1) Q := h1
        rw [e0] at h2
        exact h2 B1 _ _ (grow_none hT) (rm1.side hT) (.bl _)

/-! ### targets -/
/-- a store's reading: the slots outside keep -/
def DG (G : Dat) (X : Cx) (f : Mem → W → Env → Option Env) (sl : List Nat) : TG := fun v σ H Q => ∃ B m e w e', RelM G.N X.K B m H ∧ RelE X.K B H e σ ∧ Rep X.K B H w v ∧ f m w e = some e' ∧
  ∀ σ', RelE X.K B H e' σ' → σ'.length = σ.length → (∀ i, i ∉ sl → σ'[i]? = σ[i]?) → Q σ' H
def DGs (G : Dat) (X : Cx) (f : Mem → List W → Env → Option Env) (sl : List Nat) : TGs := fun vs σ H Q => ∃ B m e ws e', RelM G.N X.K B m H ∧ RelE X.K B H e σ ∧ Reps X.K B H ws vs ∧ f m ws e = some e' ∧
  ∀ σ', RelE X.K B H e' σ' → σ'.length = σ.length → (∀ i, i ∉ sl → σ'[i]? = σ[i]?) → Q σ' H
theorem g_nm (K : Cok G cl k X E C) {i : Nat} {x : Str} {p : Pos} (h1 : slotB C i x = true) (h2 : stoB C x = true) : PG X (.Name x p) (DG G X (fun m w e => asgT m (.nm i) w e) [i]) := by
  refine PG_imp (pg_name (by rw [K.nN]; exact K.nd) (slot_of K h1) (sto_of K h2).1 (sto_of K h2).2) ?_
  rintro v σ H Q ⟨B, m, e, w, e', rm, re, rv, ee, h⟩
  simp only [asgT, Option.some.injEq] at ee
  subst ee
  refine h _ (re.set i rv) (by simp) fun j hj => ?_
  rw [List.getElem?_set_ne (by intro e; exact hj (by simp [e]))]
theorem g_nil : PGs X [] (DGs G X (fun m ws e => asgL m .nil ws e) []) := by
  refine ⟨fun pins s σ H vs us Q I r ⟨B, m, e, ws, e', rm, re, rv, ee, h⟩ => pgs_nil.run pins s σ H vs us Q I r ?_⟩
  cases ws with
  | nil =>
    cases rv
    simp only [asgL, Option.some.injEq] at ee
    subst ee
    exact ⟨rfl, h σ re rfl fun _ _ => rfl⟩
  | cons _ _ => simp only [asgL] at ee; cases ee
theorem g_cons {t : CT} {l : CTL} (hs : noStar a = true) (ha : PG X a (DG G X (fun m w e => asgT m t w e) t.sl)) (hl : PGs X es (DGs G X (fun m ws e => asgL m l ws e) l.sl)) : PGs X (a :: es) (DGs G X (fun m ws e => asgL m (.cons t l) ws e) (CTL.cons t l).sl) := by
  refine ⟨fun pins s σ H vs us Q I r ⟨B, m, e, ws, e', rm, re, rv, ee, h⟩ => (pgs_cons ha hl (by rw [asg_cons hs] <;> rfl)).run pins s σ H vs us Q I r ?_⟩
  cases rv with
  | nil => simp only [asgL] at ee; cases ee
  | @cons w v ws vs h1 h2 =>
    simp only [asgL] at ee
    split at ee
    · rename_i e1 q
      refine ⟨v, vs, rfl, B, m, e, w, e1, rm, re, h1, q, fun σ1 re1 l1 k1 => ⟨B, m, e1, ws, e', rm, re1, h2, ee, fun σ2 re2 l2 k2 => h σ2 re2 (l2.trans l1) fun i hi => ?_⟩⟩
      simp only [CTL.sl, List.mem_append, not_or] at hi
      exact (k2 i hi.2).trans (k1 i hi.1)
    · cases ee
theorem g_tup {l : CTL} {kk : Nat} (K : Cok G cl k X E C) (hs : ∀ e ∈ es, noStar e = true) (hl : PGs X es (DGs G X (fun m ws e => asgL m l ws e) l.sl)) (hn : ∀ m ws e e', asgL m l ws e = some e' → ws.length = es.length) : PG X (.Tuple es kk pos) (DG G X (fun m w e => asgT m (.tp l) w e) l.sl) := by
  refine PG_imp (pg_tup (n := es.length) K.calm hl (asgs hs).1 (asgs hs).2) ?_
  rintro v σ H Q ⟨B, m, e, w, e', rm, re, rv, ee, h⟩
  cases rv with
  | @tup ws ad vs h1 h2 => exact ⟨ad, vs, rfl, h1, by rw [h2.length]; exact hn _ _ _ _ ee, B, m, e, ws, e', rm, re, h2, ee, h⟩
  | _ => cases ee

/-! ### what is walked -/
def SrcR (N : Nms) (K : PySem.W.Frag) (B : List Addr) (H : Hp) (s : Src) (J : It) : Prop := ∀ (B' : List Addr) (H' : Hp) (m' : Mem) (i : Nat), Grow B B' H H' → RelM N K B' m' H' →
  (s.at i m' = some none → J.stop i H') ∧ ∀ w, s.at i m' = some (some w) → J.go i H' ∧ ∀ x H2, J.yld i H' x H2 → Grow B' B' H' H2 ∧ RelM N K B' m' H2 ∧ Rep K B' H2 w x
abbrev DI (G : Dat) (X : Cx) (E : XK) (f : Env → Mem → R Src) : TI := Den G.N X.K E (SrcR G.N X.K) f
theorem src_lst {B : List Addr} {H : Hp} {j : Nat} {ad : Addr} (hj : B[j]? = some ad) : SrcR G.N X.K B H (.one (.lv j)) (Itl X.K ad) := by
  intro B' H' m' i g rm
  have hj' := g.pre _ _ hj
  constructor
  · intro h
    simp only [Src.at, Bs.at] at h
    split at h
    · rename_i ws hm
      obtain ⟨vs, h1, h2⟩ := rm.lst hj' hm
      refine ⟨vs, SqL.of h1, ?_⟩
      rw [h2.length]
      have h3 : ws[i]? = none := by simpa using h
      exact List.getElem?_eq_none_iff.mp h3
    · cases h
  · intro w h
    simp only [Src.at, Bs.at] at h
    split at h
    · rename_i ws hm
      obtain ⟨vs, h1, h2⟩ := rm.lst hj' hm
      have h3 : ws[i]? = some w := by simpa using h
      obtain ⟨v, h4, h5⟩ := h2.get h3
      refine ⟨⟨vs, v, SqL.of h1, h4⟩, ?_⟩
      rintro x H2 ⟨rfl, hy⟩
      have e := hy vs (SqL.of h1)
      rw [h4] at e
      cases e
      exact ⟨Grow.refl _ _, rm, h5⟩
    · cases h
/-- a walk over values that stand -/
theorem src_st {B : List Addr} {H : Hp} {ws : List W} {J : It} {n : Nat} (hn : n = ws.length) (hs : ∀ i (H' : Hp) (B' : List Addr), Grow B B' H H' → n ≤ i → J.stop i H') (hg : ∀ i (H' : Hp) (B' : List Addr) w, Grow B B' H H' → ws[i]? = some w → J.go i H' ∧ ∀ x H2, J.yld i H' x H2 → H2 = H' ∧ Rep X.K B' H' w x) :
    SrcR G.N X.K B H (.one (.st ws)) J := by
  intro B' H' m' i g rm
  constructor
  · intro h
    have h3 : ws[i]? = none := by simpa [Src.at, Bs.at] using h
    exact hs i H' B' g (by rw [hn]; exact List.getElem?_eq_none_iff.mp h3)
  · intro w h
    have h3 : ws[i]? = some w := by simpa [Src.at, Bs.at] using h
    obtain ⟨h4, h5⟩ := hg i H' B' w g h3
    refine ⟨h4, fun x H2 y => ?_⟩
    obtain ⟨e, r⟩ := h5 x H2 y
    subst e
    exact ⟨Grow.refl _ _, rm, r⟩
theorem src_tup {B : List Addr} {H : Hp} {ws : List W} {vs : List V} {ad : Addr} (h1 : SqT X.K H ad vs) (h2 : Reps X.K B H ws vs) : SrcR G.N X.K B H (.one (.st ws)) (Itt X.K ad) := by
  refine src_st (X := X) (n := vs.length) h2.length (fun i H' B' g hi => ⟨vs, g.sqT h1, hi⟩) fun i H' B' w g hw => ?_
  obtain ⟨v, h4, h5⟩ := h2.get hw
  refine ⟨⟨vs, v, g.sqT h1, h4⟩, ?_⟩
  rintro x H2 ⟨rfl, hy⟩
  have e := hy vs (g.sqT h1)
  rw [h4] at e
  cases e
  exact ⟨rfl, Rep.grow g _ _ h5⟩
theorem src_frz {B : List Addr} {H : Hp} {ns : List Int} {ad : Addr} (h1 : FzL X.K H ad (ns.map V.int)) : SrcR G.N X.K B H (.one (.st (ns.map W.int))) (Itl X.K ad) := by
  refine src_st (X := X) (n := ns.length) (by simp) (fun i H' B' g hi => ⟨_, (g.fz h1).sq, by simpa using hi⟩) fun i H' B' w g hw => ?_
  obtain ⟨v, h4, h5⟩ := (Reps.ints (K := X.K) (B := B') (H := H') ns).get hw
  refine ⟨⟨_, v, (g.fz h1).sq, h4⟩, ?_⟩
  rintro x H2 ⟨rfl, hy⟩
  have e := hy _ (g.fz h1).sq
  rw [h4] at e
  cases e
  exact ⟨rfl, h5⟩
theorem src_str {B : List Addr} {H : Hp} (t : Tx) : SrcR G.N X.K B H (.one (.st (t.map fun c => W.str [c]))) (Its (sx t)) := by
  have hz : (sx t).cps.size = t.length := by simp [sx]
  refine src_st (X := X) (n := t.length) (by simp) (fun i H' B' g hi => by show (sx t).cps.size ≤ i; rw [hz]; exact hi) fun i H' B' w g hw => ?_
  rw [List.getElem?_map] at hw
  cases q : t[i]? with
  | none => rw [q] at hw; cases hw
  | some c =>
    rw [q] at hw
    cases hw
    refine ⟨by show i < (sx t).cps.size; rw [hz]; exact (List.getElem?_eq_some_iff.mp q).1, ?_⟩
    rintro x H2 ⟨rfl, c', e1, rfl⟩
    have e2 : (sx t).cps[i]? = some c.toNat := by
      rw [← Array.getElem?_toList, sx_cps, List.getElem?_map, q] <;> rfl
    rw [e2] at e1
    cases e1
    exact ⟨rfl, .str [c]⟩
theorem src_rng {B : List Addr} {H : Hp} (lo : Int) (n : Nat) : SrcR G.N X.K B H (.one (.st ((List.range n).map fun (j : Nat) => W.int (lo + j)))) (Itr lo n) := by
  refine src_st (X := X) (n := n) (by simp) (fun i H' B' g hi => hi) fun i H' B' w g hw => ?_
  rw [List.getElem?_map] at hw
  by_cases hi : i < n
  · rw [List.getElem?_range hi] at hw
    cases hw
    refine ⟨hi, ?_⟩
    rintro x H2 ⟨rfl, rfl⟩
    exact ⟨rfl, .int _⟩
  · rw [List.getElem?_eq_none (by simpa using hi)] at hw
    cases hw
end
end Mi
end

section
set_option Elab.async false
set_option linter.all false
set_option maxRecDepth 100000
set_option maxHeartbeats 4000000
/-! MiK: iterators; comprehensions. -/
namespace Mi
open PySem PySem.Spec PyProof.Rows L2

/-! ### enumerate of a text -/
def Ites (x : Str) : It := ⟨fun i _ => i < x.cps.size, fun i H v H' => ∃ T c, v = .ref T ∧ H T = none ∧ x.cps[i]? = some c ∧ H' = upd H T (.tup [.int (i : Nat), .str ⟨#[c]⟩]), fun i _ => x.cps.size ≤ i⟩
theorem draws_str {prog : Program} {w : World} {A : Around} (hh : A.handled = none) (it : Addr) (x : Str) (t : Tok) :
    Draws prog w A it [it] x.cps.size (fun i v => ∃ c u, x.cps[i]? = some c ∧ v = .str ⟨#[c]⟩ u) (fun i h => h.IsStrIter it (strIterType x) x t i) := by
  unfold strIterType
  split
  · exact Draws.strAscii hh it x t
  · exact Draws.strWide hh it x t
theorem turn_enumS {P : Program} {w : World} {K : PySem.W.Frag} {elts : List Expr} {kk : Nat} {tpos : Pos} (x : Str) (t : Tok) (e it : Addr) :
    Turn P w K (.Tuple elts kk tpos) (Ites x) [e, it] e (fun i h => (∃ old, IsEnum h e it ((i : Nat) : Int) old) ∧ (i ≤ x.cps.size ∧ h.IsStrIter it (strIterType x) x t i) ∧ e ≠ it) where
  mem := by simp
  obj := fun i h st b hb => by
    obtain ⟨⟨old, he⟩, ⟨_, o, ho, hc, hd⟩, _⟩ := st
    have e' : b = e ∨ b = it := by simpa using hb
    rcases e' with z | z
    · rw [z]; exact ⟨_, he, fun v q => nomatch q⟩
    · rw [z]; exact ⟨o, ho, fun v q => by rw [hd] at q; cases q⟩
  keep := fun i h h' st k => let ⟨⟨old, he⟩, ⟨hz, o, ho, r⟩, hne⟩ := st; ⟨⟨old, k e (by simp) _ he⟩, ⟨hz, o, k it (by simp) o ho, r⟩, hne⟩
  item := by
    intro X hP hw hK hc i pins s σ H E I hf st hg
    subst hP hw hK
    obtain ⟨⟨old, he⟩, ⟨_, hit⟩, hne⟩ := st
    have hel : e < s.heap.objs.size := Heap.lt_size he
    have hil : it < s.heap.objs.size := by obtain ⟨_, q, _⟩ := hit; exact Heap.lt_size q
    have D := draws_str (prog := X.prog) (w := X.w) (A := X.A.in1) (I.ok.hd hc) it x t
    refine wpAny_pyNext_enum_itemD D he hit hg hne (by simpa using hne) fun u h' tk hP ho hit' hT hsz hk => ?_
    obtain ⟨c, u', hc', rfl⟩ := hP
    refine ⟨_, rfl, wpAny_letOwnedTupleGo_enum (s := { s with heap := h', toks := tk + 1 }) ho fun h'' he' sb => ?_⟩
    have hT2 : h''.get? s.heap.objs.size = some { cls := .type "tuple", data := .seq #[.int i tk, .str ⟨#[c]⟩ u'] } := (sb.2 _ (Nat.ne_of_gt hel)).trans hT
    have new : ObjOk X.prog X.w (upd H s.heap.objs.size (.tup [.int (i : Nat), .str ⟨#[c]⟩])) h'' s.heap.objs.size (.tup [.int (i : Nat), .str ⟨#[c]⟩]) :=
      ⟨by show 2 ≤ sizeLine; decide, [.int i tk, .str ⟨#[c]⟩ u'], .cons ⟨_, rfl⟩ (.cons ⟨_, rfl⟩ .nil), ⟨_, hT2, rfl, _, rfl⟩⟩
    have I1 : Inv X pins σ (upd H s.heap.objs.size (.tup [.int (i : Nat), .str ⟨#[c]⟩])) { s with heap := h'', toks := tk + 1 } :=
      I.turnedNew (ch := [e, it]) (fun b ob hb q => (sb.2 b (fun z => hb (by simp [z]))).trans (hk b ob (fun z => hb (by simp [z])) (fun z => hb (by simp [z])) q)) hf (Nat.le_refl _) new
    refine ⟨.ref s.heap.objs.size, _, I1, rfl, ⟨_, c, rfl, I.hok.fresh (Nat.le_refl _), hc', rfl⟩, ⟨⟨.str ⟨#[c]⟩ u', ?_⟩, ⟨hg, ?_⟩, hne⟩, fun b hb => ?_⟩
    · have e1 : ((i + 1 : Nat) : Int) = (i : Int) + 1 := by omega
      rw [e1]; exact he'
    · obtain ⟨o, ho', r⟩ := hit'
      exact ⟨o, (sb.2 it (Ne.symm hne)).trans ho', r⟩
    · have hb' : b < s.heap.objs.size := by
        have e' : b = e ∨ b = it := by simpa using hb
        rcases e' with z | z
        · rw [z]; exact hel
        · rw [z]; exact hil
      rw [upd_ne (Nat.ne_of_lt hb')]
      exact (hf b hb).1
  done := by
    intro X hP hw hK hc i pins s σ H E I hf st hg
    subst hP hw hK
    obtain ⟨⟨old, he⟩, ⟨hz, hit⟩, hne⟩ := st
    obtain ⟨f0, f1, f2, f3, f4, f5⟩ := hf it (by simp)
    have ei : i = x.cps.size := Nat.le_antisymm hz hg
    rw [ei] at hit
    have D := draws_str (prog := X.prog) (w := X.w) (A := X.A.in1) (I.ok.hd hc) it x t
    exact wpAny_pyNext_enum_endD D he hit fun h' eb => ⟨rfl, I.turned (t' := s.toks) (fun b o hb q => eb b o hb q) f0 f1 f3 f4 f5⟩
  self := fun A i s Q E st h => let ⟨⟨_, he⟩, _⟩ := st; wpAny_pyIter_enum he h

section
variable {G : Dat} {cl : Caller} {k : Nat} {X : Cx} {E : XK} {C : Sco} {fa fb fc : Env → Mem → R W} {fl : Env → Mem → R (List W)} {a b c o tg : Expr} {es : List Expr} {pos : Pos}
/-- what a walk over a value is -/
theorem it_of {w : W} {x : V} {bs : Bs} {B : List Addr} {m : Mem} {H : Hp} (rm : RelM G.N X.K B m H) (r : Rep X.K B H w x) (h : srcOf m w = some bs) :
    (∃ t, x = .str (sx t) ∧ w = .str t ∧ SrcR G.N X.K B H (.one bs) (Its (sx t))) ∨ (∃ ad vs ws, x = .ref ad ∧ w = .tup ws ∧ SqT X.K H ad vs ∧ SrcR G.N X.K B H (.one bs) (Itt X.K ad)) ∨ ∃ ad vs, x = .ref ad ∧ SqL X.K H ad vs ∧ SrcR G.N X.K B H (.one bs) (Itl X.K ad) := by
  cases r with
  | str t => cases h; exact .inl ⟨t, rfl, rfl, src_str t⟩
  | tup h1 h2 => cases h; exact .inr (.inl ⟨_, _, _, rfl, rfl, h1, src_tup h1 h2⟩)
  | frz h1 => cases h; exact .inr (.inr ⟨_, _, rfl, h1.sq, src_frz h1⟩)
  | @obj j ad hj =>
    simp only [srcOf] at h
    split at h
    · rename_i hm
      cases h
      obtain ⟨vs, h1, h2⟩ := rm.lst hj hm
      exact .inr (.inr ⟨ad, vs, rfl, SqL.of h1, src_lst hj⟩)
    · cases h
  | _ => cases h
theorem i_ex (ha : PE X a (DW G X E fa)) : PI X tg a (DI G X E fun e m => (fa e m).bind fun w m1 => ofO m1 ((srcOf m1 w).map .one)) := by
  refine ⟨fun pins s σ H R I ⟨B, m, e, rm, re, h⟩ => ?_⟩
  refine thn (ha.run pins s σ H _ I ⟨B, m, e, rm, re, Post.bind (RR := RW X.K) h⟩) fun v s1 ⟨x, H1, I1, r1, B1, m1, w, g, rm1, rw1, h1⟩ => ?_
  obtain ⟨src, es, h1⟩ := Post.ofO h1
  obtain ⟨bs, eb, rfl⟩ := map_some es
  have done : ∀ J, SrcR G.N X.K B1 H1 (.one bs) J → R J H1 := fun J hJ => Post.here (RR := SrcR G.N X.K) h1 rm1 hJ
  rcases it_of rm1 rw1 eb with ⟨t, rfl, rfl, hJ⟩ | ⟨ad, vs, ws, rfl, rfl, hs, hJ⟩ | ⟨ad, vs, rfl, hs, hJ⟩
  · obtain ⟨tk, rfl⟩ := r1
    cases ha : (sx t).cps.all (· < 128)
    · exact wpAny_pyIter_wide ha (pi_one (tk := s1.toks) I1 _ (turn_str _ (sx t) tk "str_iterator" (.inr rfl)) ⟨_, Heap.get?_push_size _ rfl, rfl, rfl⟩ (done _ hJ))
    · exact wpAny_pyIter_ascii ha (pi_one (tk := s1.toks) I1 _ (turn_str _ (sx t) tk "str_ascii_iterator" (.inl rfl)) ⟨_, Heap.get?_push_size _ rfl, rfl, rfl⟩ (done _ hJ))
  · cases r1
    obtain ⟨its, rv, p, hz⟩ := I1.tuple hs
    refine wpAny_pyIter_tuple (show s1.heap.IsTuple ad its.toArray from p) ?_
    exact pi_one (tk := s1.toks) I1 _ (turn_tuple ad _) ⟨_, Heap.get?_push_size _ rfl, rfl, rfl⟩ (done _ hJ)
  · cases r1
    obtain ⟨its, rv, p, hz⟩ := I1.list hs
    refine wpAny_pyIter_list p.isList ?_
    exact pi_one (tk := s1.toks) I1 _ (turn_list ad _) ⟨_, Heap.get?_push_size _ rfl, rfl, rfl⟩ (done _ hJ)
theorem rngW_some {ws us : List W} (h : rngW ws = some us) : (∃ j : Int, ws = [.int j] ∧ -(2 ^ 62) ≤ j ∧ j < 2 ^ 62 ∧ us = (List.range j.toNat).map fun (n : Nat) => W.int (0 + n)) ∨
    ∃ i j : Int, ws = [.int i, .int j] ∧ (-(2 ^ 62) ≤ i ∧ i < 2 ^ 62 ∧ -(2 ^ 62) ≤ j ∧ j < 2 ^ 62) ∧ us = (List.range (j - i).toNat).map fun (n : Nat) => W.int (i + n) := by
  unfold rngW at h
  split at h
  · rename_i j
    split at h
    · rename_i hc
      cases h
      have hc' := smI_iff.mp hc
      refine .inl ⟨j, rfl, by omega, by omega, ?_⟩
      congr 1
      funext n
      rw [Int.zero_add]
    · cases h
  · rename_i i j
    split at h
    · rename_i hc
      cases h
      have hc1 := smI_iff.mp hc.1
      have hc2 := smI_iff.mp hc.2
      exact .inr ⟨i, j, rfl, by omega, rfl⟩
    · cases h
  · cases h
theorem i_rng1 {p : Pos} (K : Cok G cl k X E C) (hg : gloB C "range" = true) (hl : PA X [a] (DL G X E fl)) (hn : Len fl 1) (hs : noStar a = true) : PI X tg (.Call (.Name "range" p) [a] [] pos) (DI G X E fun e m => (fl e m).bind fun ws m1 => ofO m1 ((rngW ws).map fun us => .one (.st us))) := by
  refine PI_imp (pi_range1 (glo_of K.sc hg) (K.tab.bl _ (by decide)) hl (star_cons hs)) ?_
  rintro σ H R ⟨B, m, e, rm, re, h⟩
  refine ⟨B, m, e, rm, re, (Post.list hn h).imp fun xs H1 ⟨B1, m1, ws, hw, g, rm1, rs, h1⟩ => ?_⟩
  obtain ⟨src, es, h1⟩ := Post.ofO h1
  obtain ⟨us, eu, rfl⟩ := map_some es
  rcases rngW_some eu with ⟨j, rfl, b1, b2, rfl⟩ | ⟨i, j, rfl, _⟩
  · obtain ⟨x, rfl, r⟩ := rs.one
    cases r
    exact ⟨j, rfl, b1, b2, Post.here (RR := SrcR G.N X.K) h1 rm1 (src_rng 0 _)⟩
  · simp at hw
theorem i_rng2 {p : Pos} (K : Cok G cl k X E C) (hg : gloB C "range" = true) (hl : PA X [a, b] (DL G X E fl)) (hn : Len fl 2) (hs : noStar a = true) (hs2 : noStar b = true) : PI X tg (.Call (.Name "range" p) [a, b] [] pos) (DI G X E fun e m => (fl e m).bind fun ws m1 => ofO m1 ((rngW ws).map fun us => .one (.st us))) := by
  refine PI_imp (pi_range2 (glo_of K.sc hg) (K.tab.bl _ (by decide)) hl (by rw [star_cons hs, star_cons hs2] <;> rfl) (star_cons hs2)) ?_
  rintro σ H R ⟨B, m, e, rm, re, h⟩
  refine ⟨B, m, e, rm, re, (Post.list hn h).imp fun xs H1 ⟨B1, m1, ws, hw, g, rm1, rs, h1⟩ => ?_⟩
  obtain ⟨src, es, h1⟩ := Post.ofO h1
  obtain ⟨us, eu, rfl⟩ := map_some es
  rcases rngW_some eu with ⟨j, rfl, _⟩ | ⟨i, j, rfl, b1, rfl⟩
  · simp at hw
  · obtain ⟨x, y, rfl, r, r'⟩ := rs.two
    cases r
    cases r'
    exact ⟨i, j, rfl, b1, Post.here (RR := SrcR G.N X.K) h1 rm1 (src_rng i _)⟩
/-- a pair that an enumerate makes -/
theorem enm_rep {B' : List Addr} {H' : Hp} {m' : Mem} {i : Nat} {w : W} {v : V} {T : Addr} (rm : RelM G.N X.K B' m' H') (hT : H' T = none) (r : Rep X.K B' H' w v) : Grow B' B' H' (upd H' T (.tup [.int (i : Nat), v])) ∧ RelM G.N X.K B' m' (upd H' T (.tup [.int (i : Nat), v])) ∧
    Rep X.K B' (upd H' T (.tup [.int (i : Nat), v])) (.tup [.int i, w]) (.ref T) :=
  ⟨grow_none hT, rm.side hT, .tup (SqT.of upd_same) (.cons (.int _) (.cons (Rep.grow (grow_none hT) _ _ r) .nil))⟩
theorem src_enmL {B : List Addr} {H : Hp} {bs : Bs} {ad : Addr} (h : SrcR G.N X.K B H (.one bs) (Itl X.K ad)) : SrcR G.N X.K B H (.enm bs) (Ite X.K ad) := by
  intro B' H' m' i g rm
  obtain ⟨h1, h2⟩ := h B' H' m' i g rm
  constructor
  · intro q
    simp only [Src.at] at q
    cases e : bs.at i m' with
    | none => rw [e] at q; cases q
    | some o =>
      rw [e] at q
      cases o with
      | some w => cases q
      | none => exact h1 (by simp only [Src.at]; exact e)
  · intro w q
    simp only [Src.at] at q
    cases e : bs.at i m' with
    | none => rw [e] at q; cases q
    | some o =>
      rw [e] at q
      cases o with
      | none => cases q
      | some u =>
        cases q
        obtain ⟨⟨xs, x, q1, q2⟩, q3⟩ := h2 u (by simp only [Src.at]; exact e)
        refine ⟨⟨xs, x, q1, q2⟩, ?_⟩
        rintro v H2 ⟨T, y, rfl, hT, rfl, hy⟩
        obtain ⟨_, _, r⟩ := q3 y H' ⟨rfl, hy⟩
        exact enm_rep rm hT r
theorem src_enmS {B : List Addr} {H : Hp} (t : Tx) : SrcR G.N X.K B H (.enm (.st (t.map fun c => W.str [c]))) (Ites (sx t)) := by
  intro B' H' m' i g rm
  obtain ⟨h1, h2⟩ := src_str (G := G) (X := X) (B := B) (H := H) t B' H' m' i g rm
  constructor
  · intro q
    simp only [Src.at, Bs.at, Option.map_some] at q
    cases e : (t.map fun c => W.str [c])[i]? with
    | none => exact h1 (by simp only [Src.at, Bs.at]; rw [e])
    | some w => rw [e] at q; cases q
  · intro w q
    simp only [Src.at, Bs.at, Option.map_some] at q
    cases e : (t.map fun c => W.str [c])[i]? with
    | none => rw [e] at q; cases q
    | some u =>
      rw [e] at q
      cases q
      obtain ⟨q1, q3⟩ := h2 u (by simp only [Src.at, Bs.at]; rw [e])
      refine ⟨q1, ?_⟩
      rintro v H2 ⟨T, c, rfl, hT, hc, rfl⟩
      obtain ⟨_, _, r⟩ := q3 (.str ⟨#[c]⟩) H' ⟨rfl, c, hc, rfl⟩
      exact enm_rep rm hT r
theorem i_enm {p tpos : Pos} {elts : List Expr} {kk : Nat} (K : Cok G cl k X E C) (hg : gloB C "enumerate" = true) (ha : PE X a (DW G X E fa)) (hs : noStar a = true) :
    PI X (.Tuple elts kk tpos) (.Call (.Name "enumerate" p) [a] [] pos) (DI G X E fun e m => (fa e m).bind fun w m1 => ofO m1 ((srcOfE m1 w).map .enm)) := by
  refine ⟨fun pins s σ H R I ⟨B, m, e, rm, re, h⟩ => ?_⟩
  have hA := (pa_cons ha pa_nil (star_cons hs)).run pos pins s σ H (fun vs H1 => ∃ x, vs = [x] ∧ ∃ B1 m1 w, Grow B B1 H H1 ∧ RelM G.N X.K B1 m1 H1 ∧ RW X.K B1 H1 w x ∧ Post G.N X.K E (SrcR G.N X.K) B1 H1 (ofO m1 ((srcOfE m1 w).map .enm)) R) I
    ⟨B, m, e, rm, re, (Post.bind (RR := RW X.K) h).imp fun x H1 q => ⟨x, rfl, q⟩⟩
  refine Call_ (ld_blt I (glo_of K.sc hg) (K.tab.bl _ (by decide)) boot_enumerate (PyProof.Rows.callWith_type1 (thn hA fun us s1 ⟨vs, H1, I1, r1, x, ex, B1, m1, w, g, rm1, rw1, h1⟩ => ?_) (star_cons hs) rfl))
  subst ex
  obtain ⟨u, rfl, ru⟩ := vals1 r1
  obtain ⟨src, es, h1⟩ := Post.ofO h1
  obtain ⟨bs, eb, rfl⟩ := map_some es
  have done : ∀ J, SrcR G.N X.K B1 H1 (.enm bs) J → R J H1 := fun J hJ => Post.here (RR := SrcR G.N X.K) h1 rm1 hJ
  have eb' : srcOf m1 w = some bs ∧ ∀ ws, w ≠ .tup ws := by
    unfold srcOfE at eb
    split at eb
    · cases eb
    · rename_i hn
      exact ⟨eb, hn⟩
  have two : ∀ b, b = s1.heap.objs.size + 1 ∨ b = s1.heap.objs.size → s1.heap.objs.size ≤ b := fun b e' => by
    rcases e' with z | z
    · rw [z]; exact Nat.le_add_right _ _
    · rw [z]; exact Nat.le_refl _
  rcases it_of rm1 rw1 eb'.1 with ⟨t, rfl, rfl, hJ⟩ | ⟨ad, vs, ws, rfl, rfl, hs', hJ⟩ | ⟨ad, vs, rfl, hs', hJ⟩
  · obtain ⟨tk, rfl⟩ := ru
    cases eb'.1
    refine call_enumerate_str fun h' he hit hsz hk => wpAny_pyIter_enum he ?_
    have I2 : Inv X pins σ H1 { s1 with heap := h' } := I1.kept (t' := s1.toks) hk
    refine ⟨s1.heap.objs.size + 1, [s1.heap.objs.size + 1, s1.heap.objs.size], _, _, H1, rfl, I2, turn_enumS (sx t) tk (s1.heap.objs.size + 1) s1.heap.objs.size, ⟨⟨.none, he⟩, ⟨Nat.zero_le _, hit⟩, Nat.succ_ne_self _⟩, fun b hb => ?_, done _ (src_enmS t)⟩
    have hle := two b (by simpa using hb)
    exact I1.fpOk hle (I1.hok.fresh hle)
  · exact absurd rfl (eb'.2 _)
  · cases ru
    obtain ⟨its, rv, p', hz⟩ := I1.list hs'
    refine call_enumerate_list p'.isList fun h' he hit hsz hk => wpAny_pyIter_enum he ?_
    have I2 : Inv X pins σ H1 { s1 with heap := h' } := I1.kept (t' := s1.toks) hk
    refine ⟨s1.heap.objs.size + 1, [s1.heap.objs.size + 1, s1.heap.objs.size], _, _, H1, rfl, I2, turn_enum ad (s1.heap.objs.size + 1) s1.heap.objs.size, ⟨⟨.none, he⟩, hit, Nat.succ_ne_self _⟩, fun b hb => ?_, done _ (src_enmL hJ)⟩
    have hle := two b (by simpa using hb)
    exact I1.fpOk hle (I1.hok.fresh hle)
end
end Mi
end

section
set_option Elab.async false
set_option linter.all false
set_option maxRecDepth 100000
set_option maxHeartbeats 4000000
/-! MiL: comprehensions. -/
namespace Mi
open PySem PySem.Spec PyProof.Rows L2

/-- no exception -/
abbrev E0 : XK := fun _ _ _ => False
def lcB (ft : Env → Mem → R Bool) (fe : Env → Mem → R W) (e : Env) (m : Mem) : R (Option W) := (ft e m).bind fun b m3 => if b then (fe e m3).bind fun w m4 => .ok (some w) m4 else .ok none m3
theorem wipe_same {σ σ' : L2.St} : ∀ {vs : List Nat}, σ'.length = σ.length → (∀ i, i ∉ vs → σ'[i]? = (L2.wipe σ vs)[i]?) → L2.wipe σ' vs = L2.wipe σ vs := fun {vs} hl h => by
  apply List.ext_getElem?
  intro i
  by_cases hi : i ∈ vs
  · have key : ∀ (τ : L2.St) (us : List Nat), i ∈ us → (L2.wipe τ us)[i]? = if i < τ.length then some none else none := by
      intro τ us
      induction us with
      | nil => intro h; cases h
      | cons v us ih =>
        intro h
        show ((L2.wipe τ us).set v none)[i]? = _
        by_cases hv : v = i
        · subst hv
          by_cases hz : v < τ.length
          · rw [List.getElem?_set_self (by rw [L2.wipe_length]; exact hz), if_pos hz]
          · rw [List.getElem?_eq_none (by rw [List.length_set, L2.wipe_length]; omega), if_neg hz]
        · rw [List.getElem?_set_ne hv]
          exact ih ((List.mem_cons.mp h).resolve_left fun e => hv e.symm)
    rw [key σ' vs hi, key σ vs hi, hl]
  · rw [L2.wipe_out hi, h i hi]
section
variable {G : Dat} {cl : Caller} {k : Nat} {X : Cx} {E : XK} {C : Sco} {fa fb fc fe : Env → Mem → R W} {ft : Env → Mem → R Bool} {fl : Env → Mem → R (List W)} {fi : Env → Mem → R Src} {a b c o tg iter elt : Expr} {es ifs : List Expr} {pos : Pos}

/-- what a turn of a comprehension reaches -/
def LcNx (G : Dat) (X : Cx) (E : XK) (s : Src) (j : Nat) (body : W → Mem → R (Option W)) (A : Type) (f : Unit → Mem → R A) (Z : Type) (RR : List Addr → Hp → A → Z → Prop) (Q : Z → Hp → Prop) (B : List Addr) (H : Hp) (n i : Nat) (H' : Hp) : Prop :=
  ∃ B' m', Grow B B' H H' ∧ RelM G.N X.K B' m' H' ∧ Post G.N X.K E RR B' H' ((lcRun s j body n i m').bind f) Q
theorem lc_turn {A Z : Type} {RR : List Addr → Hp → A → Z → Prop} {s : Src} {j n i : Nat} {body : W → Mem → R (Option W)} {f : Unit → Mem → R A} {Q : Z → Hp → Prop} {B0 B : List Addr} {H0 H : Hp} {m : Mem} {e : Env} {σ : L2.St} {D : Addr} (g0 : Grow B0 B H0 H)
    (rm : RelM G.N X.K B m H) (re : RelE X.K B H e σ) (hD : B0[j]? = some D)
    (h : Post G.N X.K E RR B H ((match lcB ft fe e m with
      | .ok none m1 => lcRun s j body n (i + 1) m1
      | .ok (some w) m1 => match m1[j]? with
        | some (.lst ws) => if ws.length < SL then lcRun s j body n (i + 1) (m1.set j (.lst (ws ++ [w]))) else .bad
        | _ => .bad
      | _ => .bad).bind f) Q) :
    DTb G X E0 ft σ H fun b H3 => if b = true then DW G X E0 fe σ H3 fun y H4 => ∃ acc, H4 D = some (.lst acc) ∧ acc.length < sizeLine ∧ LcNx G X E s j body A f Z RR Q B0 H0 n (i + 1) (upd H4 D (.lst (acc ++ [y])))
      else LcNx G X E s j body A f Z RR Q B0 H0 n (i + 1) H3 := by
  refine ⟨B, m, e, rm, re, ?_⟩
  unfold lcB at h
  cases q1 : ft e m with
  | bad => rw [q1] at h; exact h
  | rse _ _ _ => rw [q1] at h; exact h.elim
  | ok b m3 =>
    rw [q1] at h
    intro B3 H3 b' g3 rm3 eb
    cases eb
    cases b with
    | false => exact ⟨B3, m3, g0.trans g3, rm3, Post.mono h g3⟩
    | true =>
      rw [if_pos rfl]
      refine ⟨B3, m3, e, rm3, re.grow g3, ?_⟩
      simp only [R.bind, if_true] at h
      cases q2 : fe e m3 with
      | bad => rw [q2] at h; exact h
      | rse _ _ _ => rw [q2] at h; exact h.elim
      | ok w m4 =>
        rw [q2] at h
        dsimp only at h
        intro B4 H4 y g4 rm4 ry
        have g04 := (g0.trans g3).trans g4
        have hD4 := g04.pre _ _ hD
        cases q3 : m4[j]? with
        | none => rw [q3] at h; exact h.elim
        | some ob =>
          rw [q3] at h
          cases ob with
          | dct _ => exact h.elim
          | dcl _ => exact h.elim
          | ins _ _ => exact h.elim
          | lst ws =>
            by_cases hz : ws.length < SL
            · simp only [if_pos hz] at h
              obtain ⟨vs, h1, h2⟩ := rm4.lst hD4 q3
              obtain ⟨rm5, g5⟩ := rm4.put (u := .lst (vs ++ [y])) (o := .lst (ws ++ [w])) hD4 (fun kvs e => by rw [q3] at e; cases e) ⟨_, upd_same, Reps.append (Reps.grow (grow_lst h1) _ _ h2) (.cons (Rep.grow (grow_lst h1) _ _ ry) .nil)⟩
              exact ⟨vs, h1, by rw [h2.length, ← SL_eq]; exact hz, B4, _, g04.trans g5, rm5, Post.mono h ((g3.trans g4).trans g5)⟩
            · simp only [if_neg hz] at h
              exact h.elim
/-- the loop of a comprehension from its start -/
theorem lc_loop {A Z : Type} {RR : List Addr → Hp → A → Z → Prop} {s : Src} {j n : Nat} {t : CT} {own : List Nat} {f : Unit → Mem → R A} {Q : Z → Hp → Prop} {Qd : Hp → Prop} {B0 : List Addr} {H0 : Hp} {m0 : Mem} {e : Env} {σ : L2.St} {D : Addr} {J : It}
    (rm0 : RelM G.N X.K B0 m0 H0) (re0 : RelE X.K B0 H0 e σ) (hD : B0[j]? = some D) (hJ : SrcR G.N X.K B0 H0 s J) (hsl : ∀ i ∈ t.sl, i ∈ own)
    (h : Post G.N X.K E RR B0 H0 ((lcRun s j (fun x m2 => match asgT m2 t x (wipeE e own) with
      | some e2 => lcB ft fe e2 m2
      | none => .bad) n 0 m0).bind f) Q)
    (hQ : ∀ B m H, Grow B0 B H0 H → RelM G.N X.K B m H → Post G.N X.K E RR B H (f () m) Q → Qd H) :
    ∃ W : Nat → Nat → Hp → Prop, (∃ m, W 0 m H0) ∧ ∀ i m H, W i m H →
      (J.stop i H ∧ Qd H) ∨ (J.go i H ∧ ∃ Nx : Hp → Prop, (∀ H', Nx H' → ∃ m', m' < m ∧ W (i + 1) m' H') ∧ ∀ x H', J.yld i H x H' → DG G X (fun m w e => asgT m t w e) t.sl x (L2.wipe σ own) H' fun σ2 H2 => L2.wipe σ2 own = L2.wipe σ own ∧ DTb G X E0 ft σ2 H2 fun b H3 =>
        if b = true then DW G X E0 fe σ2 H3 fun y H4 => ∃ acc, H4 D = some (.lst acc) ∧ acc.length < sizeLine ∧ Nx (upd H4 D (.lst (acc ++ [y]))) else Nx H3) := by
  refine ⟨fun i n H => LcNx G X E s j (fun x m2 => match asgT m2 t x (wipeE e own) with
      | some e2 => lcB ft fe e2 m2
      | none => .bad) A f Z RR Q B0 H0 n i H, ⟨n, B0, m0, Grow.refl _ _, rm0, h⟩, ?_⟩
  rintro i n H ⟨B, m, g, rm, h⟩
  cases n with
  | zero => exact h.elim
  | succ n =>
    unfold lcRun at h
    obtain ⟨s1, s2⟩ := hJ B H m i g rm
    cases q : s.at i m with
    | none => rw [q] at h; exact h.elim
    | some o =>
      rw [q] at h
      cases o with
      | none => exact .inl ⟨s1 q, hQ B m H g rm h⟩
      | some x =>
        obtain ⟨hgo, hy⟩ := s2 x q
        refine .inr ⟨hgo, _, fun H' nx => ⟨n, Nat.lt_succ_self n, nx⟩, fun v H' yl => ?_⟩
        obtain ⟨g', rm', rx⟩ := hy v H' yl
        have re' : RelE X.K B H' (wipeE e own) (L2.wipe σ own) := ((re0.grow g).grow g').wipe own
        cases qa : asgT m t x (wipeE e own) with
        | none =>
          simp only [qa] at h
          exact h.elim
        | some e2 =>
          simp only [qa] at h
          refine ⟨B, m, wipeE e own, x, e2, rm', re', rx, qa, fun σ2 re2 l2 k2 => ⟨?_, ?_⟩⟩
          · refine wipe_same (by rw [l2, L2.wipe_length]) fun i hi => k2 i fun hm => hi (hsl i hm)
          · exact lc_turn (g.trans g') rm' re2 hD (Post.mono h g')
def lcF (fi : Env → Mem → R Src) (own : List Nat) (t : CT) (ft : Env → Mem → R Bool) (fe : Env → Mem → R W) : Env → Mem → R W := fun e m => (fi e m).bind fun s m1 => (lcRun s m1.length (fun x m2 => match asgT m2 t x (wipeE e own) with
      | some e2 => lcB ft fe e2 m2
      | none => .bad) (s.len m1 + 1) 0 (m1 ++ [.lst []])).bind fun _ m5 => .ok (.obj m1.length) m5
theorem lc_rd {own : List Nat} {t : CT} (hsl : ∀ i ∈ t.sl, i ∈ own) {σ : L2.St} {H : Hp} {Q : VK} (h : DW G X E (lcF fi own t ft fe) σ H Q) : tLc (DI G X E fi) (DG G X (fun m w e => asgT m t w e) t.sl) (DTb G X E0 ft) (DW G X E0 fe) own σ H Q := by
  obtain ⟨B, m, e, rm, re, h⟩ := h
  refine ⟨B, m, e, rm, re, (Post.bind (RR := SrcR G.N X.K) h).imp fun J H1 ⟨B1, m1, s, g, rm1, hJ, h1⟩ => fun D hD => ?_⟩
  have g1 := grow_new (B := B1) (u := .lst []) hD
  have rm2 := rm1.new (u := .lst []) (o := .lst []) hD ⟨[], upd_same, .nil⟩
  have ro : (B1 ++ [D])[m1.length]? = some D := by
    rw [List.getElem?_append_right (by rw [rm1.len]; exact Nat.le_refl _), rm1.len]
    simp
  have hJ2 : SrcR G.N X.K (B1 ++ [D]) (upd H1 D (.lst [])) s J := fun B' H' m' i g' => hJ B' H' m' i (g1.trans g')
  exact lc_loop (Qd := fun H => Q (.ref D) H) rm2 ((re.grow g).grow g1) ro hJ2 hsl (Post.mono h1 g1) fun B5 m5 H5 g5 rm5 h5 => end_w h5 rm5 (.obj (g5.pre _ _ ro))
theorem own_map (C : Sco) (own : List Nat) : (ownP C own).map (·.2) = own := by
  unfold ownP
  rw [List.map_map]
  exact List.map_id' own
section
variable {scope : Scope} {own : List Nat} {t : CT}
theorem s_lc (K : Cok G cl k X E C) (hb : blkC C.S C.sc scope (ownP C own) = true) (hsl : ∀ i ∈ t.sl, i ∈ own) (hi : PI X tg iter (DI G X E fi)) (hns : noSet iter = true)
    (hg : ∀ X', X'.K = X.K → Cok G cl k X' E0 (C.blk scope) → PG X' tg (DG G X' (fun m w e => asgT m t w e) t.sl)) (ht : ∀ X', X'.K = X.K → Cok G cl k X' E0 (C.blk scope) → PTs X' ifs (DTb G X' E0 ft)) (he : ∀ X', X'.K = X.K → Cok G cl k X' E0 (C.blk scope) → PE X' elt (DW G X' E0 fe)) :
    PE X (.ListComp elt [⟨tg, iter, ifs, 0⟩] scope pos) (DW G X E (lcF fi own t ft fe)) := by
  have ok := blkOk_by hb
  rw [← K.nN, ← K.sc] at ok
  refine PE_imp (pe_lc (g := DG G X (fun m w e => asgT m t w e) t.sl) (tt := DTb G X E0 ft) (te := DW G X E0 fe) K.calm (by rw [K.nN]; exact K.nd) hi ok (fun s H Cc cle fp => hg _ rfl (K.blk scope s H Cc cle fp)) (fun s H Cc cle fp => ht _ rfl (K.blk scope s H Cc cle fp)) (fun s H Cc cle fp => he _ rfl (K.blk scope s H Cc cle fp)) (noSet_it hns)) fun σ H Q h => ?_
  rw [own_map]
  exact lc_rd hsl h
theorem s_setLc (K : Cok G cl k X E C) {i : Nat} {x : Str} {py spos : Pos} (h1 : slotB C i x = true) (h2 : locB C x = true) (hln : (py.line == pos.line) = true) (hnm : (scope.names.any fun (n, k) => n == x && (k == .local || k == .cell)) = false) (hkd : X.env.scope.kind = .function)
    (hb : blkC C.S C.sc scope (ownP C own) = true) (hsl : ∀ i ∈ t.sl, i ∈ own) (hi : PI X tg iter (DI G X E fi)) (hns : noSet iter = true)
    (hg : ∀ X', X'.K = X.K → Cok G cl k X' E0 (C.blk scope) → PG X' tg (DG G X' (fun m w e => asgT m t w e) t.sl)) (ht : ∀ X', X'.K = X.K → Cok G cl k X' E0 (C.blk scope) → PTs X' ifs (DTb G X' E0 ft)) (he : ∀ X', X'.K = X.K → Cok G cl k X' E0 (C.blk scope) → PE X' elt (DW G X' E0 fe)) :
    PS X (.Assign [.Name x py] (.ListComp elt [⟨tg, iter, ifs, 0⟩] scope pos) spos) (tAsg (DW G X E (lcF fi own t ft fe)) (gName i)) := by
  have ok := blkOk_by hb
  rw [← K.nN, ← K.sc] at ok
  have hloc := loc_of K.sc h2
  refine PS_imp (ps_setLc (g := DG G X (fun m w e => asgT m t w e) t.sl) (tt := DTb G X E0 ft) (te := DW G X E0 fe) K.calm (by rw [K.nN]; exact K.nd) (slot_of K h1) hloc (sw_true hkd hloc hln hnm) hi ok (fun s H Cc cle fp => hg _ rfl (K.blk scope s H Cc cle fp)) (fun s H Cc cle fp => ht _ rfl (K.blk scope s H Cc cle fp)) (fun s H Cc cle fp => he _ rfl (K.blk scope s H Cc cle fp)) (noSet_it hns)) fun D σ H h => ?_
  have h' : DW G X E (lcF fi own t ft fe) σ H (fun x H1 => gName i x σ H1 D.nx) := h
  show tLc _ _ _ _ _ σ H (fun x H1 => gName i x σ H1 D.nx)
  rw [own_map]
  exact lc_rd hsl h'
end
end
end Mi
end

section
set_option Elab.async false
set_option linter.all false
set_option maxRecDepth 100000
set_option maxHeartbeats 4000000
/-! MiM: comprehensions with two clauses; statements. -/
namespace Mi
open PySem PySem.Spec PyProof.Rows L2

section
variable {G : Dat} {cl : Caller} {k : Nat} {X : Cx} {E : XK} {C : Sco} {fa fb fc fe : Env → Mem → R W} {ft : Env → Mem → R Bool} {fl : Env → Mem → R (List W)} {fi fi2 : Env → Mem → R Src} {a b c o tg iter elt tg2 iter2 : Expr} {es ifs : List Expr} {pos : Pos} {scope : Scope} {own own2 : List Nat} {t t2 : CT}
theorem run2_bind {A Z : Type} {RR : List Addr → Hp → A → Z → Prop} {B : List Addr} {H : Hp} {r : R Unit} {F : Mem → R Unit} {f : Unit → Mem → R A} {Q : Z → Hp → Prop} (h : Post G.N X.K E RR B H ((r.seq F).bind f) Q) : (∃ d m1, r = .ok d m1) ∧ Post G.N X.K E RR B H (r.bind fun _ m1 => (F m1).bind f) Q := by
  cases r with
  | ok d m1 => exact ⟨⟨d, m1, rfl⟩, h⟩
  | rse _ _ _ => exact h.elim
  | bad => exact h.elim
def lc2F (fi : Env → Mem → R Src) (own : List Nat) (t : CT) (fi2 : Env → Mem → R Src) (own2 : List Nat) (t2 : CT) (ft : Env → Mem → R Bool) (fe : Env → Mem → R W) : Env → Mem → R W := fun e m => (fi e m).bind fun s m1 =>
      (lcRun2 s (fun x m2 => match asgT m2 t x (wipeE e own) with
        | some e2 => (fi2 e2 m2).bind fun s2 m3 => lcRun s2 m1.length (fun y m4 => match asgT m4 t2 y (wipeE e2 own2) with
          | some e3 => lcB ft fe e3 m4
          | none => .bad) (s2.len m3 + 1) 0 m3
        | none => .bad) (s.len m1 + 1) 0 (m1 ++ [.lst []])).bind fun _ m5 => .ok (.obj m1.length) m5
theorem lc2_rd (hsl : ∀ i ∈ t.sl, i ∈ own) (hsl2 : ∀ i ∈ t2.sl, i ∈ own2) {σ : L2.St} {H : Hp} {Q : VK} (h : DW G X E (lc2F fi own t fi2 own2 t2 ft fe) σ H Q) :
    tLc2 (DI G X E fi) (DG G X (fun m w e => asgT m t w e) t.sl) tYes (DI G X E0 fi2) (DG G X (fun m w e => asgT m t2 w e) t2.sl) (DTb G X E0 ft) (DW G X E0 fe) own own2 σ H Q := by
  obtain ⟨B, m, e, rm, re, h⟩ := h
  refine ⟨B, m, e, rm, re, (Post.bind (RR := SrcR G.N X.K) h).imp fun J H1 ⟨B1, m1, s, g, rm1, hJ, h1⟩ => fun D hD => ?_⟩
  have g1 := grow_new (B := B1) (u := .lst []) hD
  have rm2 := rm1.new (u := .lst []) (o := .lst []) hD ⟨[], upd_same, .nil⟩
  have ro : (B1 ++ [D])[m1.length]? = some D := by
    rw [List.getElem?_append_right (by rw [rm1.len]; exact Nat.le_refl _), rm1.len]
    simp
  have hJ2 : SrcR G.N X.K (B1 ++ [D]) (upd H1 D (.lst [])) s J := fun B' H' m' i g' => hJ B' H' m' i (g1.trans g')
  have re2 := (re.grow g).grow g1
  generalize hbody : (fun (x : W) (m2 : Mem) => match asgT m2 t x (wipeE e own) with
        | some e2 => (fi2 e2 m2).bind fun s2 m3 => lcRun s2 m1.length (fun y m4 => match asgT m4 t2 y (wipeE e2 own2) with
          | some e3 => lcB ft fe e3 m4
          | none => .bad) (s2.len m3 + 1) 0 m3
        | none => .bad) = body at h1
  refine ⟨fun i n H => ∃ B m, Grow (B1 ++ [D]) B (upd H1 D (.lst [])) H ∧ RelM G.N X.K B m H ∧ Post G.N X.K E (RW X.K) B H ((lcRun2 s body n i m).bind fun _ m5 => .ok (.obj m1.length) m5) Q, ⟨_, _, _, Grow.refl _ _, rm2, Post.mono h1 g1⟩, ?_⟩
  rintro i n H ⟨B, m, g, rm, h⟩
  cases n with
  | zero => exact h.elim
  | succ n =>
    unfold lcRun2 at h
    obtain ⟨s1, s2⟩ := hJ2 B H m i g rm
    cases q : s.at i m with
    | none => rw [q] at h; exact h.elim
    | some o =>
      rw [q] at h
      cases o with
      | none => exact .inl ⟨s1 q, end_w h rm (.obj (g.pre _ _ ro))⟩
      | some x =>
        obtain ⟨hgo, hy⟩ := s2 x q
        refine .inr ⟨hgo, _, fun H' nx => ⟨n, Nat.lt_succ_self n, nx⟩, fun v H' yl => ?_⟩
        obtain ⟨g', rm', rx⟩ := hy v H' yl
        have re' : RelE X.K B H' (wipeE e own) (L2.wipe σ own) := ((re2.grow g).grow g').wipe own
        dsimp only at h
        have h3 := run2_bind (G := G) (X := X) (E := E) (RR := RW X.K) (r := body x m) (F := fun m1 => lcRun2 s body n (i + 1) m1) (f := fun _ m5 => .ok (.obj m1.length) m5) h
        have h2 := h3.2
        have hb : body x m = match asgT m t x (wipeE e own) with
          | some e2 => (fi2 e2 m).bind fun s2 m3 => lcRun s2 m1.length (fun y m4 => match asgT m4 t2 y (wipeE e2 own2) with
            | some e3 => lcB ft fe e3 m4
            | none => .bad) (s2.len m3 + 1) 0 m3
          | none => .bad := by rw [← hbody]
        obtain ⟨d, mm, hok⟩ := h3.1
        rw [hb] at h2 hok
        cases qa : asgT m t x (wipeE e own) with
        | none =>
          simp only [qa] at hok
          cases hok
        | some e2 =>
          simp only [qa] at h2 hok
          refine ⟨B, m, wipeE e own, x, e2, rm', re', rx, qa, fun σ2 re3 l2 k2 => ⟨?_, ?_⟩⟩
          · exact wipe_same (by rw [l2, L2.wipe_length]) fun i hi => k2 i fun hm => hi (hsl i hm)
          · unfold tYes
            simp only [if_true]
            refine ⟨B, m, e2, rm', re3, ?_⟩
            cases q2 : fi2 e2 m with
            | bad => rw [q2] at hok; cases hok
            | rse _ _ _ => rw [q2] at hok; cases hok
            | ok ss m3 =>
              rw [q2] at h2
              intro B4 H4 J1 g4 rm4 hJ1
              have g04 := (g.trans g').trans g4
              exact lc_loop (A := W) (Z := V) (RR := RW X.K) (E := E) (Q := Q) (f := fun _ m1' => (lcRun2 s body n (i + 1) m1').bind fun _ m5 => .ok (.obj m1.length) m5) (Qd := fun H => ∃ B m, Grow (B1 ++ [D]) B (upd H1 D (.lst [])) H ∧ RelM G.N X.K B m H ∧ Post G.N X.K E (RW X.K) B H ((lcRun2 s body n (i + 1) m).bind fun _ m5 => .ok (.obj m1.length) m5) Q)
                rm4 (re3.grow g4) (g04.pre _ _ ro) hJ1 hsl2 (Post.mono h2 (g'.trans g4)) fun B5 m5 H5 g5 rm5 h5 => ⟨B5, m5, g04.trans g5, rm5, h5⟩
theorem s_lc2 (K : Cok G cl k X E C) (hb : blkC C.S C.sc scope (ownP C own) = true) (hsl : ∀ i ∈ t.sl, i ∈ own) (hsl2 : ∀ i ∈ t2.sl, i ∈ own2) (ho2 : ∀ i ∈ own2, i ∈ own) (hi : PI X tg iter (DI G X E fi)) (hns : noSet iter = true) (hns2 : noSet iter2 = true)
    (hg : ∀ X', X'.K = X.K → Cok G cl k X' E0 (C.blk scope) → PG X' tg (DG G X' (fun m w e => asgT m t w e) t.sl)) (hi2 : ∀ X', X'.K = X.K → Cok G cl k X' E0 (C.blk scope) → PI X' tg2 iter2 (DI G X' E0 fi2)) (hg2 : ∀ X', X'.K = X.K → Cok G cl k X' E0 (C.blk scope) → PG X' tg2 (DG G X' (fun m w e => asgT m t2 w e) t2.sl))
    (ht : ∀ X', X'.K = X.K → Cok G cl k X' E0 (C.blk scope) → PTs X' ifs (DTb G X' E0 ft)) (he : ∀ X', X'.K = X.K → Cok G cl k X' E0 (C.blk scope) → PE X' elt (DW G X' E0 fe)) :
    PE X (.ListComp elt [⟨tg, iter, [], 0⟩, ⟨tg2, iter2, ifs, 0⟩] scope pos) (DW G X E (lc2F fi own t fi2 own2 t2 ft fe)) := by
  have ok := blkOk_by hb
  rw [← K.nN, ← K.sc] at ok
  refine PE_imp (pe_lc2 (vs1 := own2) (g := DG G X (fun m w e => asgT m t w e) t.sl) (tt := tYes) (wi1 := DI G X E0 fi2) (g1 := DG G X (fun m w e => asgT m t2 w e) t2.sl) (tt1 := DTb G X E0 ft) (te := DW G X E0 fe) K.calm (by rw [K.nN]; exact K.nd) hi ok (by rw [own_map]; exact ho2)
    (fun s H Cc cle fp => hg _ rfl (K.blk scope s H Cc cle fp)) (fun s H Cc cle fp => pts_nil) (fun s H Cc cle fp => hi2 _ rfl (K.blk scope s H Cc cle fp)) (fun s H Cc cle fp => hg2 _ rfl (K.blk scope s H Cc cle fp)) (fun s H Cc cle fp => ht _ rfl (K.blk scope s H Cc cle fp)) (fun s H Cc cle fp => he _ rfl (K.blk scope s H Cc cle fp)) (noSet_it hns) (fun env => noSet_it hns2)) fun σ H Q h => ?_
  rw [own_map]
  exact lc2_rd hsl hsl2 h
theorem s_setLc2 (K : Cok G cl k X E C) {i : Nat} {x : Str} {py spos : Pos} (h1 : slotB C i x = true) (h2 : locB C x = true) (hln : (py.line == pos.line) = true) (hnm : (scope.names.any fun (n, k) => n == x && (k == .local || k == .cell)) = false) (hkd : X.env.scope.kind = .function)
    (hb : blkC C.S C.sc scope (ownP C own) = true) (hsl : ∀ i ∈ t.sl, i ∈ own) (hsl2 : ∀ i ∈ t2.sl, i ∈ own2) (ho2 : ∀ i ∈ own2, i ∈ own) (hi : PI X tg iter (DI G X E fi)) (hns : noSet iter = true) (hns2 : noSet iter2 = true)
    (hg : ∀ X', X'.K = X.K → Cok G cl k X' E0 (C.blk scope) → PG X' tg (DG G X' (fun m w e => asgT m t w e) t.sl)) (hi2 : ∀ X', X'.K = X.K → Cok G cl k X' E0 (C.blk scope) → PI X' tg2 iter2 (DI G X' E0 fi2)) (hg2 : ∀ X', X'.K = X.K → Cok G cl k X' E0 (C.blk scope) → PG X' tg2 (DG G X' (fun m w e => asgT m t2 w e) t2.sl))
    (ht : ∀ X', X'.K = X.K → Cok G cl k X' E0 (C.blk scope) → PTs X' ifs (DTb G X' E0 ft)) (he : ∀ X', X'.K = X.K → Cok G cl k X' E0 (C.blk scope) → PE X' elt (DW G X' E0 fe)) :
    PS X (.Assign [.Name x py] (.ListComp elt [⟨tg, iter, [], 0⟩, ⟨tg2, iter2, ifs, 0⟩] scope pos) spos) (tAsg (DW G X E (lc2F fi own t fi2 own2 t2 ft fe)) (gName i)) := by
  have ok := blkOk_by hb
  rw [← K.nN, ← K.sc] at ok
  have hloc := loc_of K.sc h2
  refine PS_imp (ps_setLc2 (vs1 := own2) (g := DG G X (fun m w e => asgT m t w e) t.sl) (tt := tYes) (wi1 := DI G X E0 fi2) (g1 := DG G X (fun m w e => asgT m t2 w e) t2.sl) (tt1 := DTb G X E0 ft) (te := DW G X E0 fe) K.calm (by rw [K.nN]; exact K.nd) (slot_of K h1) hloc (sw_true hkd hloc hln hnm) hi ok (by rw [own_map]; exact ho2)
    (fun s H Cc cle fp => hg _ rfl (K.blk scope s H Cc cle fp)) (fun s H Cc cle fp => pts_nil) (fun s H Cc cle fp => hi2 _ rfl (K.blk scope s H Cc cle fp)) (fun s H Cc cle fp => hg2 _ rfl (K.blk scope s H Cc cle fp)) (fun s H Cc cle fp => ht _ rfl (K.blk scope s H Cc cle fp)) (fun s H Cc cle fp => he _ rfl (K.blk scope s H Cc cle fp)) (noSet_it hns) (fun env => noSet_it hns2)) fun D σ H h => ?_
  have h' : DW G X E (lc2F fi own t fi2 own2 t2 ft fe) σ H (fun x H1 => gName i x σ H1 D.nx) := h
  show tLc2 _ _ _ _ _ _ _ _ _ σ H (fun x H1 => gName i x σ H1 D.nx)
  rw [own_map]
  exact lc2_rd hsl hsl2 h'
end
end Mi
end

section
set_option Elab.async false
set_option linter.all false
set_option maxRecDepth 100000
set_option maxHeartbeats 4000000
/-! MiV: dict comprehensions. -/
namespace Mi
open PySem PySem.Spec PyProof.Rows L2

def dcB (ft : Env → Mem → R Bool) (fk fv : Env → Mem → R W) (e : Env) (m : Mem) : R (Option (W × W)) := (ft e m).bind fun b m3 => if b then (fk e m3).bind fun p m4 => (fv e m4).bind fun q m5 => .ok (some (p, q)) m5 else .ok none m3
section
variable {G : Dat} {cl : Caller} {k : Nat} {X : Cx} {E : XK} {C : Sco} {fa fb fc fk fv : Env → Mem → R W} {ft : Env → Mem → R Bool} {fl : Env → Mem → R (List W)} {fi : Env → Mem → R Src} {a b c o tg iter kx vx : Expr} {es ifs : List Expr} {pos : Pos}
/-- what a turn reaches -/
def DcNx (G : Dat) (X : Cx) (E : XK) (s : Src) (j : Nat) (body : W → Mem → R (Option (W × W))) (A : Type) (f : Unit → Mem → R A) (Z : Type) (RR : List Addr → Hp → A → Z → Prop) (Q : Z → Hp → Prop) (B : List Addr) (H : Hp) (n i : Nat) (H' : Hp) : Prop :=
  ∃ B' m', Grow B B' H H' ∧ RelM G.N X.K B' m' H' ∧ Post G.N X.K E RR B' H' ((dcRun s j body n i m').bind f) Q
theorem grow_dct {B : List Addr} {H : Hp} {a : Addr} {ks : List (Key × V)} {u : HO} (h : H a = some (.dK ks)) : Grow B B H (upd H a u) := grow_upd (fun xs e => by rw [h] at e; cases e) fun o z e => by rw [h] at e; cases e
theorem dc_turn {A Z : Type} {RR : List Addr → Hp → A → Z → Prop} {s : Src} {j n i : Nat} {body : W → Mem → R (Option (W × W))} {f : Unit → Mem → R A} {Q : Z → Hp → Prop} {B0 B : List Addr} {H0 H : Hp} {m : Mem} {e : Env} {σ : L2.St} {D : Addr} (g0 : Grow B0 B H0 H)
    (rm : RelM G.N X.K B m H) (re : RelE X.K B H e σ) (hD : B0[j]? = some D)
    (h : Post G.N X.K E RR B H ((match dcB ft fk fv e m with
      | .ok none m1 => dcRun s j body n (i + 1) m1
      | .ok (some p) m1 => match m1[j]? with
        | some (.dct kvs) => if isKey p.1 = true ∧ kvs.length < SL then dcRun s j body n (i + 1) (m1.set j (.dct (putW kvs p.1 p.2))) else .bad
        | _ => .bad
      | _ => .bad).bind f) Q) :
    DTb G X E0 ft σ H fun b H3 => if b = true then DW G X E0 fk σ H3 fun y H4 => DW G X E0 fv σ H4 fun z H5 => ∃ kvs kk, y = kV kk ∧ H5 D = some (.dK kvs) ∧ kvs.length < sizeLine ∧ DcNx G X E s j body A f Z RR Q B0 H0 n (i + 1) (upd H5 D (.dK (putK kvs kk z)))
      else DcNx G X E s j body A f Z RR Q B0 H0 n (i + 1) H3 := by
  refine ⟨B, m, e, rm, re, ?_⟩
  unfold dcB at h
  cases q1 : ft e m with
  | bad => rw [q1] at h; exact h
  | rse _ _ _ => rw [q1] at h; exact h.elim
  | ok b m3 =>
    rw [q1] at h
    intro B3 H3 b' g3 rm3 eb
    cases eb
    cases b with
    | false => exact ⟨B3, m3, g0.trans g3, rm3, Post.mono h g3⟩
    | true =>
      rw [if_pos rfl]
      refine ⟨B3, m3, e, rm3, re.grow g3, ?_⟩
      simp only [R.bind, if_true] at h
      cases q2 : fk e m3 with
      | bad => rw [q2] at h; exact h
      | rse _ _ _ => rw [q2] at h; exact h.elim
      | ok w m4 =>
        rw [q2] at h
        dsimp only at h
        intro B4 H4 y g4 rm4 ry
        refine ⟨B4, m4, e, rm4, (re.grow g3).grow g4, ?_⟩
        cases q3 : fv e m4 with
        | bad => rw [q3] at h; exact h
        | rse _ _ _ => rw [q3] at h; exact h.elim
        | ok u m5 =>
          rw [q3] at h
          dsimp only at h
          intro B5 H5 z g5 rm5 rz
          have g05 := ((g0.trans g3).trans g4).trans g5
          have hD5 := g05.pre _ _ hD
          cases q4 : m5[j]? with
          | none => rw [q4] at h; exact h.elim
          | some ob =>
            rw [q4] at h
            cases ob with
            | lst _ => exact h.elim
            | ins _ _ => exact h.elim
            | dcl _ => exact h.elim
            | dct kvs =>
              by_cases hz : isKey w = true ∧ kvs.length < SL
              · simp only [if_pos hz] at h
                obtain ⟨ks, h1, h2⟩ := rm5.dct hD5 q4
                obtain ⟨kk, kr⟩ := isKey_some hz.1
                have ey := key_kV kr ry
                obtain ⟨rm6, g6⟩ := rm5.put (u := .dK (putK ks kk z)) (o := .dct (putW kvs w u)) hD5 (fun kvs e => by rw [q4] at e; cases e) ⟨_, upd_same, DRel.put kr (Rep.grow (grow_dct h1) _ _ rz) (h2.grow (grow_dct h1))⟩
                exact ⟨ks, kk, ey, h1, by rw [h2.length, ← SL_eq]; exact hz.2, B5, _, g05.trans g6, rm6, Post.mono h (((g3.trans g4).trans g5).trans g6)⟩
              · simp only [if_neg hz] at h
                exact h.elim
theorem dc_loop {A Z : Type} {RR : List Addr → Hp → A → Z → Prop} {s : Src} {j n : Nat} {t : CT} {own : List Nat} {f : Unit → Mem → R A} {Q : Z → Hp → Prop} {Qd : Hp → Prop} {B0 : List Addr} {H0 : Hp} {m0 : Mem} {e : Env} {σ : L2.St} {D : Addr} {J : It}
    (rm0 : RelM G.N X.K B0 m0 H0) (re0 : RelE X.K B0 H0 e σ) (hD : B0[j]? = some D) (hJ : SrcR G.N X.K B0 H0 s J) (hsl : ∀ i ∈ t.sl, i ∈ own)
    (h : Post G.N X.K E RR B0 H0 ((dcRun s j (fun x m2 => match asgT m2 t x (wipeE e own) with
      | some e2 => dcB ft fk fv e2 m2
      | none => .bad) n 0 m0).bind f) Q)
    (hQ : ∀ B m H, Grow B0 B H0 H → RelM G.N X.K B m H → Post G.N X.K E RR B H (f () m) Q → Qd H) :
    ∃ W : Nat → Nat → Hp → Prop, (∃ m, W 0 m H0) ∧ ∀ i m H, W i m H →
      (J.stop i H ∧ Qd H) ∨ (J.go i H ∧ ∃ Nx : Hp → Prop, (∀ H', Nx H' → ∃ m', m' < m ∧ W (i + 1) m' H') ∧ ∀ x H', J.yld i H x H' → DG G X (fun m w e => asgT m t w e) t.sl x (L2.wipe σ own) H' fun σ2 H2 => L2.wipe σ2 own = L2.wipe σ own ∧ DTb G X E0 ft σ2 H2 fun b H3 =>
        if b = true then DW G X E0 fk σ2 H3 fun y H4 => DW G X E0 fv σ2 H4 fun z H5 => ∃ kvs kk, y = kV kk ∧ H5 D = some (.dK kvs) ∧ kvs.length < sizeLine ∧ Nx (upd H5 D (.dK (putK kvs kk z))) else Nx H3) := by
  refine ⟨fun i n H => DcNx G X E s j (fun x m2 => match asgT m2 t x (wipeE e own) with
      | some e2 => dcB ft fk fv e2 m2
      | none => .bad) A f Z RR Q B0 H0 n i H, ⟨n, B0, m0, Grow.refl _ _, rm0, h⟩, ?_⟩
  rintro i n H ⟨B, m, g, rm, h⟩
  cases n with
  | zero => exact h.elim
  | succ n =>
    unfold dcRun at h
    obtain ⟨s1, s2⟩ := hJ B H m i g rm
    cases q : s.at i m with
    | none => rw [q] at h; exact h.elim
    | some o =>
      rw [q] at h
      cases o with
      | none => exact .inl ⟨s1 q, hQ B m H g rm h⟩
      | some x =>
        obtain ⟨hgo, hy⟩ := s2 x q
        refine .inr ⟨hgo, _, fun H' nx => ⟨n, Nat.lt_succ_self n, nx⟩, fun v H' yl => ?_⟩
        obtain ⟨g', rm', rx⟩ := hy v H' yl
        have re' : RelE X.K B H' (wipeE e own) (L2.wipe σ own) := ((re0.grow g).grow g').wipe own
        cases qa : asgT m t x (wipeE e own) with
        | none =>
          simp only [qa] at h
          exact h.elim
        | some e2 =>
          simp only [qa] at h
          refine ⟨B, m, wipeE e own, x, e2, rm', re', rx, qa, fun σ2 re2 l2 k2 => ⟨?_, ?_⟩⟩
          · refine wipe_same (by rw [l2, L2.wipe_length]) fun i hi => k2 i fun hm => hi (hsl i hm)
          · exact dc_turn (g.trans g') rm' re2 hD (Post.mono h g')
def dcF (fi : Env → Mem → R Src) (own : List Nat) (t : CT) (ft : Env → Mem → R Bool) (fk fv : Env → Mem → R W) : Env → Mem → R W := fun e m => (fi e m).bind fun s m1 => (dcRun s m1.length (fun x m2 => match asgT m2 t x (wipeE e own) with
      | some e2 => dcB ft fk fv e2 m2
      | none => .bad) (s.len m1 + 1) 0 (m1 ++ [.dct []])).bind fun _ m5 => .ok (.obj m1.length) m5
theorem dc_rd {own : List Nat} {t : CT} (hsl : ∀ i ∈ t.sl, i ∈ own) {σ : L2.St} {H : Hp} {Q : VK} (h : DW G X E (dcF fi own t ft fk fv) σ H Q) : tDc (DI G X E fi) (DG G X (fun m w e => asgT m t w e) t.sl) (DTb G X E0 ft) (DW G X E0 fk) (DW G X E0 fv) own σ H Q := by
  obtain ⟨B, m, e, rm, re, h⟩ := h
  refine ⟨B, m, e, rm, re, (Post.bind (RR := SrcR G.N X.K) h).imp fun J H1 ⟨B1, m1, s, g, rm1, hJ, h1⟩ => fun D hD => ?_⟩
  have g1 := grow_new (B := B1) (u := .dK []) hD
  have rm2 := rm1.new (u := .dK []) (o := .dct []) hD ⟨[], upd_same, .nil⟩
  have ro : (B1 ++ [D])[m1.length]? = some D := by
    rw [List.getElem?_append_right (by rw [rm1.len]; exact Nat.le_refl _), rm1.len]
    simp
  have hJ2 : SrcR G.N X.K (B1 ++ [D]) (upd H1 D (.dK [])) s J := fun B' H' m' i g' => hJ B' H' m' i (g1.trans g')
  exact dc_loop (Qd := fun H => Q (.ref D) H) rm2 ((re.grow g).grow g1) ro hJ2 hsl (Post.mono h1 g1) fun B5 m5 H5 g5 rm5 h5 => end_w h5 rm5 (.obj (g5.pre _ _ ro))
theorem s_dc {scope : Scope} {own : List Nat} {t : CT} (K : Cok G cl k X E C) (hb : blkC C.S C.sc scope (ownP C own) = true) (hsl : ∀ i ∈ t.sl, i ∈ own) (hi : PI X tg iter (DI G X E fi)) (hns : noSet iter = true)
    (hg : ∀ X', X'.K = X.K → Cok G cl k X' E0 (C.blk scope) → PG X' tg (DG G X' (fun m w e => asgT m t w e) t.sl)) (ht : ∀ X', X'.K = X.K → Cok G cl k X' E0 (C.blk scope) → PTs X' ifs (DTb G X' E0 ft))
    (hk : ∀ X', X'.K = X.K → Cok G cl k X' E0 (C.blk scope) → PE X' kx (DW G X' E0 fk)) (he : ∀ X', X'.K = X.K → Cok G cl k X' E0 (C.blk scope) → PE X' vx (DW G X' E0 fv)) :
    PE X (.DictComp kx vx [⟨tg, iter, ifs, 0⟩] scope pos) (DW G X E (dcF fi own t ft fk fv)) := by
  have ok := blkOk_by hb
  rw [← K.nN, ← K.sc] at ok
  refine PE_imp (pe_dc (g := DG G X (fun m w e => asgT m t w e) t.sl) (tt := DTb G X E0 ft) (tk := DW G X E0 fk) (tv := DW G X E0 fv) K.calm (by rw [K.nN]; exact K.nd) hi ok (fun s H Cc cle fp => hg _ rfl (K.blk scope s H Cc cle fp)) (fun s H Cc cle fp => ht _ rfl (K.blk scope s H Cc cle fp)) (fun s H Cc cle fp => hk _ rfl (K.blk scope s H Cc cle fp)) (fun s H Cc cle fp => he _ rfl (K.blk scope s H Cc cle fp)) (noSet_it hns)) fun σ H Q h => ?_
  rw [own_map]
  exact dc_rd hsl h
end
end Mi
end

section
set_option Elab.async false
set_option linter.all false
set_option maxRecDepth 100000
set_option maxHeartbeats 4000000
/-! MiN: statements, case by case. -/
namespace Mi
open PySem PySem.Spec PyProof.Rows L2

theorem noComp_sole {t e : Expr} {l : Nat} {env : PySem.Env} (h : noComp e = true) : swapsWithSole [t] e l env = pure false := by
  unfold swapsWithSole
  exact noComp_sw h
theorem any_no {a b : Expr} {f : Expr → Bool} (ha : noStar a = true) (hb : noStar b = true) (hf : ∀ e, noStar e = true → f e = false) : ([a, b].any f) = false := by
  simp [hf a ha, hf b hb]
theorem blk_fn {env : PySem.Env} (hk : env.scope.kind = .function) : env.blockKind = .function := by
  unfold Env.blockKind
  rw [hk] <;> rfl
theorem sw_par {env : PySem.Env} {x y : Str} {px py pt pt2 : Pos} {kt k2 : Nat} {a b : Expr} (hk : env.scope.kind = .function) (hx : env.scope.names.lookup x = some .local) (hy : env.scope.names.lookup y = some .local) (hxy : x ≠ y) (hl : (py.line == px.line) = true)
    (ha : noStar a = true) (hb : noStar b = true) (h1 : (foldedForSure 8 a && foldedForSure 8 b) = false) (h2 : (constantsAlone 8 a && constantsAlone 8 b) = false) : swappedStores [.Tuple [.Name x px, .Name y py] kt pt] (.Tuple [a, b] k2 pt2) env = pure (some [x, y]) := by
  have kx : env.kindOf x = some .local := hx
  have ky : env.kindOf y = some .local := hy
  have hb' := blk_fn hk
  have hyx : (y == x) = false := beq_eq_false_iff_ne.mpr (Ne.symm hxy)
  have hxy' : (x == y) = false := beq_eq_false_iff_ne.mpr hxy
  unfold swappedStores
  dsimp only
  rw [any_no ha hb (fun e h => by cases e <;> first | rfl | cases h)]
  simp only [hb', List.length_cons, List.length_nil, List.head?_cons, Option.map_some, Option.getD_some, Expr.pos, List.filterMap_cons, List.filterMap_nil, kx, ky, List.all_cons, List.all_nil, Bool.and_true, h1, h2]
  simp [hl, List.eraseDups_cons, hyx, hxy']
theorem fm_short {f : Expr → Option Str} : ∀ {ts : List Expr} {t : Expr}, t ∈ ts → f t = none → ((ts.filterMap f).length != ts.length) = true
  | [], _, h, _ => by cases h
  | u :: r, t, h, hf => by
    have h0 := List.length_filterMap_le f r
    rw [List.filterMap_cons]
    rcases List.mem_cons.mp h with rfl | h
    · rw [hf]
      simp only [List.length_cons, bne_iff_ne, ne_eq]
      omega
    · have ih := fm_short h hf
      simp only [bne_iff_ne, ne_eq] at ih
      cases f u with
      | none =>
        simp only [List.length_cons, bne_iff_ne, ne_eq]
        omega
      | some x =>
        simp only [List.length_cons, bne_iff_ne, ne_eq]
        omega
theorem sw_tup {C : Sco} {env : PySem.Env} {ts vs : List Expr} {k k2 : Nat} {p p2 : Pos} (hsc : env.scope = C.sc) (h : swN C ts vs = true) : swappedStores [.Tuple ts k p] (.Tuple vs k2 p2) env = pure none := by
  unfold swappedStores
  dsimp only
  by_cases h1 : (!(ts.length == 2 || ts.length == 3) || vs.length != ts.length || env.blockKind != .function) = true
  · rw [if_pos h1]
  · rw [if_neg h1]
    have h1' : (!(ts.length == 2 || ts.length == 3) || vs.length != ts.length) = false := by
      cases q : (!(ts.length == 2 || ts.length == 3) || vs.length != ts.length) with
      | false => rfl
      | true => rw [q] at h1; exact absurd rfl h1
    unfold swN at h
    rw [h1', Bool.false_or] at h
    obtain ⟨t, ht, hn⟩ := List.any_eq_true.mp h
    split
    · rfl
    · rw [if_pos]
      rw [Bool.or_eq_true]
      refine .inl (fm_short ht ?_)
      cases t <;> first | rfl | cases hn | skip
      rename_i x pos
      have hl : locB C x = false := by simpa [noLoc] using hn
      have hk : (env.kindOf x == some .local) = false := by
        show (env.scope.names.lookup x == some .local) = false
        rw [hsc]
        unfold locB at hl
        split at hl
        · cases hl
        · rename_i hne
          exact beq_eq_false_iff_ne.mpr hne
      dsimp only
      rw [hk, Bool.false_and]
      rfl
section
variable {G : Dat} {cl : Caller} {k : Nat} {X : Cx} {E : XK} {C : Sco} {fa fb fc fe : Env → Mem → R W} {ft : Env → Mem → R Bool} {fl : Env → Mem → R (List W)} {fi : Env → Mem → R Src} {fs fs2 : Env → Mem → RS} {a b c o tg iter : Expr} {es : List Expr} {p q : List Stmt} {st : Stmt} {pos : Pos} {t : CT}
abbrev DS (G : Dat) (X : Cx) (E : XK) (f : Env → Mem → RS) : TS := DenS G.N X.K E f
theorem st_pass : PS X (.Pass pos) (DS G X E fun e m => .next e m) := by
  refine PS_imp ps_pass ?_
  rintro D σ H ⟨B, m, e, rm, re, h⟩
  exact h B H σ (Grow.refl _ _) rm re
theorem st_doc {x : Str} {j : Nat} {p' : Pos} : PS X (.Expr (.Constant (.str x) j p') pos) (DS G X E fun e m => .next e m) := by
  refine PS_imp ps_doc ?_
  rintro D σ H ⟨B, m, e, rm, re, h⟩
  exact h B H σ (Grow.refl _ _) rm re
theorem st_expr (ha : PE X a (DW G X E fa)) (hs : noComp a = true) : PS X (.Expr a pos) (DS G X E fun e m => .ofR e (fa e m) fun _ m1 => .next e m1) := by
  refine PS_imp (ps_expr ha (noComp_sw hs)) ?_
  rintro D σ H ⟨B, m, e, rm, re, h⟩
  exact ⟨B, m, e, rm, re, (PostS.ofR (RR := RW X.K) h).imp fun x H1 ⟨B1, m1, w, g, rm1, rw1, h1⟩ => h1 B1 H1 σ (Grow.refl _ _) rm1 (re.grow g)⟩
theorem st_ret (ha : PE X a (DW G X E fa)) : PS X (.Return (some a) pos) (DS G X E fun e m => .ofR e (fa e m) fun w m1 => .ret w m1) := by
  refine PS_imp (ps_ret ha) ?_
  rintro D σ H ⟨B, m, e, rm, re, h⟩
  exact ⟨B, m, e, rm, re, (PostS.ofR (RR := RW X.K) h).imp fun x H1 ⟨B1, m1, w, g, rm1, rw1, h1⟩ => h1 B1 H1 x (Grow.refl _ _) rm1 rw1⟩
theorem st_retN : PS X (.Return none pos) (DS G X E fun e m => .ret .non m) := by
  refine PS_imp ps_retN ?_
  rintro D σ H ⟨B, m, e, rm, re, h⟩
  exact h B H .non (Grow.refl _ _) rm .non
theorem st_nvr : PS X st (DS G X E fun _ _ => .bad) := ⟨fun pins s σ H D I ⟨B, m, e, rm, re, h⟩ => h.elim⟩
theorem set_rd {i : Nat} {D : Ends} {σ : L2.St} {H : Hp} (h : DS G X E (fun e m => .ofR e (fa e m) fun w m1 => .next (e.set i (some w)) m1) D σ H) : tAsg (DW G X E fa) (gName i) D σ H := by
  obtain ⟨B, m, e, rm, re, h⟩ := h
  exact ⟨B, m, e, rm, re, (PostS.ofR (RR := RW X.K) h).imp fun x H1 ⟨B1, m1, w, g, rm1, rw1, h1⟩ => h1 B1 H1 _ (Grow.refl _ _) rm1 ((re.grow g).set i rw1)⟩
theorem st_set (K : Cok G cl k X E C) {i : Nat} {x : Str} {py : Pos} (h1 : slotB C i x = true) (h2 : stoB C x = true) (ha : PE X a (DW G X E fa)) (hs : noComp a = true) : PS X (.Assign [.Name x py] a pos) (DS G X E fun e m => .ofR e (fa e m) fun w m1 => .next (e.set i (some w)) m1) :=
  PS_imp (ps_set (by rw [K.nN]; exact K.nd) (slot_of K h1) (sto_of K h2).1 ha (noComp_sw hs) (sto_of K h2).2) fun _ _ _ h => set_rd h
theorem st_setC {i : Nat} (h : PS X st (tAsg (DW G X E fa) (gName i))) : PS X st (DS G X E fun e m => .ofR e (fa e m) fun w m1 => .next (e.set i (some w)) m1) := PS_imp h fun _ _ _ h => set_rd h
theorem st_unp {l : CTL} {kk : Nat} {p' : Pos} (ha : PE X a (DW G X E fa)) (hg : PG X (.Tuple es kk p') (DG G X (fun m w e => asgT m (.tp l) w e) l.sl)) (hs : noComp a = true) (hsw : swappedStores [.Tuple es kk p'] a X.env = pure none) :
    PS X (.Assign [.Tuple es kk p'] a pos) (DS G X E fun e m => .ofR e (fa e m) fun w m1 => match asgT m1 (.tp l) w e with
      | some e' => .next e' m1
      | none => .bad) := by
  refine PS_imp (ps_asg ha hg (noComp_sole hs) hsw rfl) ?_
  rintro D σ H ⟨B, m, e, rm, re, h⟩
  refine ⟨B, m, e, rm, re, (PostS.ofR (RR := RW X.K) h).imp fun x H1 ⟨B1, m1, w, g, rm1, rw1, h1⟩ => ?_⟩
  split at h1
  · rename_i e' q
    exact ⟨B1, m1, e, w, e', rm1, re.grow g, rw1, q, fun σ' re' _ _ => h1 B1 H1 σ' (Grow.refl _ _) rm1 re'⟩
  · exact h1.elim
theorem sw_none {e : Expr} {tgs : List Expr} {env : PySem.Env} (h : (match e with | .Tuple .. => false | _ => true) = true) (ht : ∃ t, tgs = [t]) : swappedStores tgs e env = pure none := by
  obtain ⟨t, rfl⟩ := ht
  cases e <;> first | (cases t <;> rfl) | cases h
theorem st_par (K : Cok G cl k X E C) {i j : Nat} {x y : Str} {px py pt pt2 : Pos} {kt k2 : Nat} (hk : X.env.scope.kind = .function) (h1 : slotB C i x = true) (h2 : slotB C j y = true) (hij : i ≠ j) (h3 : locB C x = true) (h4 : locB C y = true) (hl : (py.line == px.line) = true) (hxy : x ≠ y)
    (hf : (foldedForSure 8 a && foldedForSure 8 b) = false) (hc : (constantsAlone 8 a && constantsAlone 8 b) = false) (ha : PE X a (DW G X E fa)) (hb : PE X b (DW G X E fb)) (sa : noStar a = true) (sb : noStar b = true) :
    PS X (.Assign [.Tuple [.Name x px, .Name y py] kt pt] (.Tuple [a, b] k2 pt2) pos) (DS G X E fun e m => .ofR e (fa e m) fun w m1 => .ofR e (fb e m1) fun u m2 => .next ((e.set i (some w)).set j (some u)) m2) := by
  refine PS_imp (ps_par K.calm (by rw [K.nN]; exact K.nd) (slot_of K h1) (slot_of K h2) hij (loc_of K.sc h3) (loc_of K.sc h4) (pa_cons ha (pa_cons hb pa_nil (star_cons sb)) (star_cons sa)) (sw_par hk (loc_of K.sc h3) (loc_of K.sc h4) hxy hl sa sb hf hc)) ?_
  rintro D σ H ⟨B, m, e, rm, re, h⟩
  refine ⟨B, m, e, rm, re, (PostS.ofR (RR := RW X.K) h).imp fun x H1 ⟨B1, m1, w, g, rm1, rw1, h1⟩ => ⟨B1, m1, e, rm1, re.grow g, (PostS.ofR (RR := RW X.K) h1).imp fun y H2 ⟨B2, m2, u, g2, rm2, ru, h2⟩ => ?_⟩⟩
  exact ⟨x, y, rfl, h2 B2 H2 _ (Grow.refl _ _) rm2 ((((re.grow g).grow g2).set i (Rep.grow g2 _ _ rw1)).set j ru)⟩
theorem swA {e b : Expr} {y : Str} {p : Pos} {l : Nat} {env : PySem.Env} : swapsWith e (some (.Attribute b y p)) l env = pure false := by cases e <;> rfl
theorem swS {e b c : Expr} {p : Pos} {l : Nat} {env : PySem.Env} : swapsWithSole [.Subscript b c p] e l env = pure false := by cases e <;> rfl
/-- o[i] = v, of a list or a dict -/
theorem set_LD (hu : X.A.units + 1 < cLine) : PSet X (fun o i v H Q => rSetL o i v H Q ∨ rSetD o i v H Q) := by
  intro pins s σ H o i v ov iv u Q I ro ri rv h
  rcases h with h | h
  · exact set_list pins s σ H o i v ov iv u Q I ro ri rv h
  · exact set_dict hu pins s σ H o i v ov iv u Q I ro ri rv h
theorem st_sub (K : Cok G cl k X E C) (ha : PE X a (DW G X E fa)) (ho : PE X b (DW G X E fb)) (hi : PE X c (DW G X E fc)) (hsl : noSl c = true) {p' : Pos} :
    PS X (.Assign [.Subscript b c p'] a pos) (DS G X E fun e m => .ofR e (fa e m) fun w m1 => .ofR e (fb e m1) fun u m2 => .ofR e (fc e m2) fun v m3 => match subW u v w m3 with
      | some m4 => .next e m4
      | none => .bad) := by
  have hasg : ∀ v, assign (.Subscript b c p') X.env v = (do
      let ov ← holding [v] (eval b X.env)
      let iv ← holding [v, ov] (eval c X.env)
      standAt p'
      holding [v, ov, iv] (setItem ov iv v)
      release [v, ov, iv] []) := by
    intro v
    cases c with
    | Slice l u s p => cases s with
      | none => cases hsl
      | some _ => rfl
    | _ => rfl
  have hsw : swappedStores [.Subscript b c p'] a X.env = pure none := by cases a <;> rfl
  refine PS_imp (ps_asg ha (pg_sub ho hi (set_LD (by have := K.room.un; omega)) hasg) swS hsw rfl) ?_
  rintro D σ H ⟨B, m, e, rm, re, h⟩
  refine ⟨B, m, e, rm, re, (PostS.ofR (RR := RW X.K) h).imp fun x H1 ⟨B1, m1, w, g, rm1, rw1, h1⟩ => ⟨B1, m1, e, rm1, re.grow g, (PostS.ofR (RR := RW X.K) h1).imp fun y H2 ⟨B2, m2, u, g2, rm2, ru, h2⟩ =>
    ⟨B2, m2, e, rm2, (re.grow g).grow g2, (PostS.ofR (RR := RW X.K) h2).imp fun z H3 ⟨B3, m3, v, g3, rm3, rv, h3⟩ => ?_⟩⟩⟩
  have ru3 := Rep.grow g3 _ _ ru
  have rw3 := Rep.grow g3 _ _ (Rep.grow g2 _ _ rw1)
  cases hs : subW u v w m3 with
  | none => rw [hs] at h3; exact h3.elim
  | some m4 =>
    rw [hs] at h3
    unfold subW at hs
    split at hs
    · cases ru3 with
      | @obj _ ad hk =>
        split at hs
        · rename_i ws hm
          split at hs
          · cases rv
            split at hs
            · rename_i j hj
              cases hs
              obtain ⟨vs, q1, q2⟩ := rm3.lst hk hm
              obtain ⟨rm4, g4⟩ := rm3.put (u := .lst (vs.set j x)) (o := .lst (ws.set j w)) hk (fun kvs e => by rw [hm] at e; cases e) ⟨_, upd_same, Reps.set j (Reps.grow (grow_lst q1) _ _ q2) (Rep.grow (grow_lst q1) _ _ rw3)⟩
              exact .inl ⟨ad, vs, _, j, rfl, rfl, q1, by rw [q2.length]; exact hj, h3 B3 _ σ g4 rm4 (((re.grow g).grow g2).grow (g3.trans g4))⟩
            · cases hs
          · cases hs
        · rename_i kvs hm
          split at hs
          · rename_i hz
            cases hs
            obtain ⟨ks, q1, q2⟩ := rm3.dct hk hm
            obtain ⟨kk, kr⟩ := isKey_some hz.1
            have ez := key_kV kr rv
            subst ez
            obtain ⟨rm4, g4⟩ := rm3.put (u := .dK (putK ks kk x)) (o := .dct (putW kvs v w)) hk (fun kvs e => by rw [hm] at e; cases e) ⟨_, upd_same, DRel.put kr (Rep.grow (grow_dct q1) _ _ rw3) (q2.grow (grow_dct q1))⟩
            exact .inr ⟨ad, _, rfl, DPut.k q1 (by rw [q2.length, ← SL_eq]; exact hz.2), h3 B3 _ σ g4 rm4 (((re.grow g).grow g2).grow (g3.trans g4))⟩
          · cases hs
        · cases hs
    · cases hs
theorem st_fld (K : Cok G cl k X E C) {f : Nat} {y : Str} (hf : G.N.fld[f]? = some y) (ha : PE X a (DW G X E fa)) (ho : PE X b (DW G X E fb)) {p' : Pos} :
    PS X (.Assign [.Attribute b y p'] a pos) (DS G X E fun e m => .ofR e (fa e m) fun w m1 => .ofR e (fb e m1) fun u m2 => match u with
    | .obj k => match m2[k]? with
      | some (.ins c fs) => if fs.length < 900 then .next e (m2.set k (.ins c (putA f w fs))) else .bad
      | _ => .bad
    | _ => .bad) := by
  refine PS_imp (ps_fld ho ha swA) ?_
  rintro D σ H ⟨B, m, e, rm, re, h⟩
  refine ⟨B, m, e, rm, re, (PostS.ofR (RR := RW X.K) h).imp fun x H1 ⟨B1, m1, w, g, rm1, rw1, h1⟩ => ⟨B1, m1, e, rm1, re.grow g, (PostS.ofR (RR := RW X.K) h1).imp fun z H2 ⟨B2, m2, u, g2, rm2, ru, h2⟩ => ?_⟩⟩
  have rw2 := Rep.grow g2 _ _ rw1
  split at h2
  · cases ru with
    | @obj j ad hk =>
      split at h2
      · rename_i c' fs hm
        split at h2
        · rename_i hz
          obtain ⟨nm, dx, gs, D', e1, e2, e3, e4, F⟩ := ins_of K.tab rm2 hk hm
          have gi : Grow B2 B2 H2 (upd H2 ad (.ins (He.ga X.K nm) dx (putF y x gs))) := grow_upd (by rw [e2]; intro _ z; cases z) (by rw [e2]; intro _ _ z; cases z)
          obtain ⟨rm4, g4⟩ := rm2.put (u := .ins (He.ga X.K nm) dx (putF y x gs)) (o := .ins c' (putA f w fs)) hk (fun kvs e => by rw [hm] at e; cases e) ⟨nm, dx, _, e1, upd_same, FRel.put K.tab.nd (e3.grow gi) hf (Rep.grow gi _ _ rw2)⟩
          exact ⟨ad, _, dx, gs, rfl, e2, F.cls, F.no y (List.mem_of_getElem? hf), by rw [e3.length]; omega, h2 B2 _ σ g4 rm4 ((re.grow g).grow (g2.trans g4))⟩
        · exact h2.elim
      · exact h2.elim
  · exact h2.elim
def ipW (N : Nms) (K : PySem.W.Frag) (E : XK) : TIp := fun x y H Q => ∃ B m w u, RelM N K B m H ∧ Rep K B H w x ∧ Rep K B H u y ∧ Post N K E (RW K) B H (match w, u with
        | .int x, .int y => .ok (.int (x + y)) m
        | .str x, .str y => if x.length + y.length ≤ SL then .ok (.str (x ++ y)) m else .bad
        | _, _ => .bad) Q
theorem ip_W : PIp X .Add (ipW G.N X.K E) := by
  rintro pins s σ H x y v u Q I rx ry ⟨B, m, w, z, rm, rw', rz, h⟩
  split at h
  · cases rw'
    cases rz
    exact ip_add pins s σ H _ _ v u Q I rx ry ⟨_, _, rfl, rfl, end_w h rm (.int _)⟩
  · split at h
    · rename_i hz
      cases rw'
      cases rz
      exact iop_add_str pins s σ H _ _ v u Q I rx ry ⟨_, _, rfl, rfl, by rw [sx_length, sx_length, ← SL_eq]; exact hz, by rw [sx_append]; exact end_w h rm (.str _)⟩
    · exact h.elim
  · exact h.elim
theorem st_aug (K : Cok G cl k X E C) {i : Nat} {x : Str} {p' : Pos} (h1 : slotB C i x = true) (h2 : stoB C x = true) (ha : PE X a (DW G X E fa)) : PS X (.AugAssign (.Name x p') .Add a pos) (DS G X E fun e m => match e[i]? with
    | some (some w) => .ofR e (fa e m) fun u m1 => .ofR e (match w, u with
        | .int x, .int y => .ok (.int (x + y)) m1
        | .str x, .str y => if x.length + y.length ≤ SL then .ok (.str (x ++ y)) m1 else .bad
        | _, _ => .bad) fun v m2 => .next (e.set i (some v)) m2
    | _ => .bad) := by
  refine PS_imp (ps_aug (by rw [K.nN]; exact K.nd) (slot_of K h1) (sto_of K h2).1 ha (ip_W (G := G) (E := E)) (sto_of K h2).2) ?_
  rintro D σ H ⟨B, m, e, rm, re, h⟩
  dsimp only at h
  split at h
  · rename_i w ew
    obtain ⟨v, e1, e2⟩ := re.get i w ew
    refine ⟨v, e1, B, m, e, rm, re, (PostS.ofR (RR := RW X.K) h).imp fun y H1 ⟨B1, m1, u, g, rm1, ru, h1⟩ => ⟨B1, m1, w, u, rm1, Rep.grow g _ _ e2, ru, (PostS.ofR (RR := RW X.K) h1).imp fun z H2 ⟨B2, m2, zz, g2, rm2, rz, h2⟩ => ?_⟩⟩
    exact h2 B2 H2 _ (Grow.refl _ _) rm2 (((re.grow g).grow g2).set i rz)
  · exact h.elim
theorem st_if (hc : PT X c (DT G X E fc)) (ha : PSs X p (DS G X E fs)) (hb : PSs X q (DS G X E fs2)) : PS X (.If c p q pos) (DS G X E fun e m => .ofR e (fc e m) fun w m1 => .ofR e (tru w m1) fun t m2 => if t then fs e m2 else fs2 e m2) := by
  refine PS_imp (ps_if hc ha hb) ?_
  rintro D σ H ⟨B, m, e, rm, re, h⟩
  have h' : PostS G.N X.K E B H (.ofR e ((fc e m).bind tru) fun t m2 => if t then fs e m2 else fs2 e m2) D := by
    have e1 : RS.ofR e ((fc e m).bind tru) (fun t m2 => if t then fs e m2 else fs2 e m2) = RS.ofR e (fc e m) fun w m1 => .ofR e (tru w m1) fun t m2 => if t then fs e m2 else fs2 e m2 := by
      cases fc e m <;> rfl
    rw [e1]
    exact h
  refine ⟨B, m, e, rm, re, (PostS.ofR (RR := RB) h').imp fun t H1 ⟨B1, m1, t', g, rm1, et, h1⟩ => ?_⟩
  cases et
  cases t with
  | true => exact ⟨B1, m1, e, rm1, re.grow g, h1⟩
  | false => exact ⟨B1, m1, e, rm1, re.grow g, h1⟩
/-- behind a body that goes on -/
theorem body_post {B : List Addr} {H : Hp} {r : RS} {F : Env → Mem → RS} {D : Ends} {N : L2.St → Hp → Prop} (h : PostS G.N X.K E B H (match r with
      | .next e' m' => F e' m'
      | r => r) D) (hN : ∀ B' H' σ' e' m', Grow B B' H H' → RelM G.N X.K B' m' H' → RelE X.K B' H' e' σ' → PostS G.N X.K E B' H' (F e' m') D → N σ' H') : PostS G.N X.K E B H r { D with nx := N, ct := N, bk := D.nx } := by
  cases r with
  | next e' m' => exact fun B' H' σ' g rm re => hN B' H' σ' e' m' g rm re (PostS.mono h g)
  | ret w m' => exact h
  | rse c x e' m' => exact h
  | bad => exact h
theorem st_while (hp : PassesOwn (model X.prog X.w) X.A X.env X.xe) (hc : PT X c (DT G X E fc)) (hb : PSs X p (DS G X E fs)) : PS X (.While c p [] pos) (DS G X E fun e m => whRun (fun e1 m1 => (fc e1 m1).bind tru) (fun e1 m1 => fs e1 m1) FUEL e m) := by
  refine PS_imp (ps_while hp hc hb) ?_
  rintro D σ H ⟨B, m, e, rm, re, h⟩
  refine ⟨fun n σ H => ∃ B m e, RelM G.N X.K B m H ∧ RelE X.K B H e σ ∧ PostS G.N X.K E B H (whRun (fun e1 m1 => (fc e1 m1).bind tru) (fun e1 m1 => fs e1 m1) n e m) D, ⟨FUEL, B, m, e, rm, re, h⟩, ?_⟩
  rintro n σ H ⟨B, m, e, rm, re, h⟩
  cases n with
  | zero => exact h.elim
  | succ n =>
    unfold whRun at h
    refine ⟨B, m, e, rm, re, ?_⟩
    dsimp only
    cases q : (fc e m).bind tru with
    | bad => rw [q] at h; exact h
    | rse _ _ _ => rw [q] at h; exact h
    | ok t m1 =>
      rw [q] at h
      intro B1 H1 t' g rm1 et
      cases et
      cases t with
      | false =>
        rw [if_neg Bool.false_ne_true]
        exact h B1 H1 σ g rm1 (re.grow g)
      | true =>
        rw [if_pos rfl]
        refine ⟨_, fun σ' H' hn => ⟨n, Nat.lt_succ_self n, hn⟩, B1, m1, e, rm1, re.grow g, ?_⟩
        exact body_post (F := fun e' m' => whRun (fun e1 m1 => (fc e1 m1).bind tru) (fun e1 m1 => fs e1 m1) n e' m') (PostS.mono h g) fun B' H' σ' e' m' g' rm' re' h' => ⟨B', m', e', rm', re', h'⟩
theorem st_for (K : Cok G cl k X E C) (hp : PassesOwn (model X.prog X.w) X.A X.env X.xe) (hi : PI X tg iter (DI G X E fi)) (hg : PG X tg (DG G X (fun m w e => asgT m t w e) t.sl)) (hb : PSs X p (DS G X E fs)) (hns : noSet iter = true) :
    PS X (.For tg iter p [] pos) (DS G X E fun e m => .ofR e (fi e m) fun s m1 => forRun s (fun x e1 m2 => match asgT m2 t x e1 with
      | some e2 => fs e2 m2
      | none => .bad) (s.len m1 + 1) 0 e m1) := by
  refine PS_imp (ps_for hp K.calm hi hg hb (noSet_it hns)) ?_
  rintro D σ H ⟨B, m, e, rm, re, h⟩
  refine ⟨B, m, e, rm, re, (PostS.ofR (RR := SrcR G.N X.K) h).imp fun J H1 ⟨B1, m1, s, g, rm1, hJ, h1⟩ => ?_⟩
  generalize hbody : (fun (x : W) (e1 : Env) (m2 : Mem) => match asgT m2 t x e1 with
      | some e2 => fs e2 m2
      | none => RS.bad) = body at h1
  refine ⟨fun i n σ H => ∃ B m e, Grow B1 B H1 H ∧ RelM G.N X.K B m H ∧ RelE X.K B H e σ ∧ PostS G.N X.K E B H (forRun s body n i e m) D, ⟨_, B1, m1, e, Grow.refl _ _, rm1, re.grow g, h1⟩, ?_⟩
  rintro i n σ H ⟨B, m, e, g, rm, re, h⟩
  cases n with
  | zero => exact h.elim
  | succ n =>
    unfold forRun at h
    obtain ⟨s1, s2⟩ := hJ B H m i g rm
    cases q : s.at i m with
    | none => rw [q] at h; exact h.elim
    | some o =>
      rw [q] at h
      cases o with
      | none => exact .inl ⟨s1 q, h B H σ (Grow.refl _ _) rm re⟩
      | some x =>
        obtain ⟨hgo, hy⟩ := s2 x q
        refine .inr ⟨hgo, _, fun σ' H' nx => ⟨n, Nat.lt_succ_self n, nx⟩, fun v H' yl => ?_⟩
        obtain ⟨g', rm', rx⟩ := hy v H' yl
        dsimp only at h
        have hb : body x e m = match asgT m t x e with
          | some e2 => fs e2 m
          | none => RS.bad := by rw [← hbody]
        rw [hb] at h
        cases qa : asgT m t x e with
        | none =>
          rw [qa] at h
          exact h.elim
        | some e2 =>
          rw [qa] at h
          refine ⟨B, m, e, x, e2, rm', re.grow g', rx, qa, fun σ2 re2 l2 k2 => ⟨B, m, e2, rm', re2, ?_⟩⟩
          exact body_post (F := fun e' m' => forRun s body n (i + 1) e' m') (PostS.mono h g') fun B' H' σ' e' m' g2 rm2 re2 h2 => ⟨B', m', e', (g.trans g').trans g2, rm2, re2, h2⟩
theorem b_nil : PSs X [] (DS G X E fun e m => .next e m) := by
  refine PSs_imp pss_nil ?_
  rintro D σ H ⟨B, m, e, rm, re, h⟩
  exact h B H σ (Grow.refl _ _) rm re
theorem b_cons (hs : PS X st (DS G X E fs)) (hb : PSs X p (DS G X E fs2)) : PSs X (st :: p) (DS G X E fun e m => match fs e m with
    | .next e' m' => fs2 e' m'
    | r => r) := by
  refine PSs_imp (pss_cons hs hb) ?_
  rintro D σ H ⟨B, m, e, rm, re, h⟩
  refine ⟨B, m, e, rm, re, ?_⟩
  dsimp only at h
  cases q : fs e m with
  | next e' m' =>
    rw [q] at h
    exact fun B' H' σ' g rm' re' => ⟨B', m', e', rm', re', PostS.mono h g⟩
  | ret w m' => rw [q] at h; exact h
  | rse c x e' m' => rw [q] at h; exact h
  | bad => rw [q] at h; exact h
end
end Mi
end

section
set_option Elab.async false
set_option linter.all false
set_option maxRecDepth 100000
set_option maxHeartbeats 4000000
/-! MiQ: the interpreter's equations. -/
namespace Mi
open PySem
variable {T : Tab} {cl : Caller}
theorem ev_var {i} : ev T cl (CE.var i) = fun e m => match e[i]? with
    | some (some w) => .ok w m
    | _ => .bad := by funext e m; rw [ev] <;> rfl
theorem ev_non  : ev T cl (CE.non ) = fun e m => .ok .non m := by funext e m; rw [ev] <;> rfl
theorem ev_bl {b} : ev T cl (CE.bl b) = fun e m => .ok (.bl b) m := by funext e m; rw [ev] <;> rfl
theorem ev_int {i} : ev T cl (CE.int i) = fun e m => .ok (.int i) m := by funext e m; rw [ev] <;> rfl
theorem ev_str {x} : ev T cl (CE.str x) = fun e m => .ok (.str x) m := by funext e m; rw [ev] <;> rfl
theorem ev_glo {g} : ev T cl (CE.glo g) = fun e m => ofO m (T.gl g) := by funext e m; rw [ev] <;> rfl
theorem ev_bin {o a b} : ev T cl (CE.bin o a b) = fun e m => (ev T cl a e m).bind fun w m1 => (ev T cl b e m1).bind fun u m2 => binop o w u m2 := by funext e m; rw [ev] <;> rfl
theorem ev_neg {a} : ev T cl (CE.neg a) = fun e m => (ev T cl a e m).bind fun w m1 => negW m1 w := by funext e m; rw [ev] <;> rfl
theorem ev_not {a} : ev T cl (CE.not a) = fun e m => (ev T cl a e m).bind fun w m1 => (tru w m1).bind fun b m2 => .ok (.bl (!b)) m2 := by funext e m; rw [ev] <;> rfl
theorem ev_cmp {o a b} : ev T cl (CE.cmp o a b) = fun e m => (ev T cl a e m).bind fun w m1 => (ev T cl b e m1).bind fun u m2 => cmpop o w u m2 := by funext e m; rw [ev] <;> rfl
theorem ev_chain {o p a b c} : ev T cl (CE.chain o p a b c) = fun e m => (ev T cl a e m).bind fun w m1 => (ev T cl b e m1).bind fun u m2 => (cmpop o w u m2).bind fun x m3 => match x with
    | .bl true => (ev T cl c e m3).bind fun v m4 => cmpop p u v m4
    | .bl false => .ok (.bl false) m3
    | _ => .bad := by funext e m; rw [ev] <;> rfl
theorem ev_and {a b} : ev T cl (CE.and a b) = fun e m => (ev T cl a e m).bind fun w m1 => (tru w m1).bind fun t m2 => if t then ev T cl b e m2 else .ok w m2 := by funext e m; rw [ev] <;> rfl
theorem ev_or {a b} : ev T cl (CE.or a b) = fun e m => (ev T cl a e m).bind fun w m1 => (tru w m1).bind fun t m2 => if t then .ok w m2 else ev T cl b e m2 := by funext e m; rw [ev] <;> rfl
theorem ev_ite {c a b} : ev T cl (CE.ite c a b) = fun e m => (ev T cl c e m).bind fun w m1 => (tru w m1).bind fun t m2 => if t then ev T cl a e m2 else ev T cl b e m2 := by funext e m; rw [ev] <;> rfl
theorem ev_tup {l} : ev T cl (CE.tup l) = fun e m => (evL T cl l e m).bind fun ws m1 => .ok (.tup ws) m1 := by funext e m; rw [ev] <;> rfl
theorem ev_lst {l} : ev T cl (CE.lst l) = fun e m => (evL T cl l e m).bind fun ws m1 => alloc (.lst ws) m1 := by funext e m; rw [ev] <;> rfl
theorem ev_dct {l} : ev T cl (CE.dct l) = fun e m => (evL T cl l e (m ++ [.dct []])).bind fun ws m1 => dctEnd m.length ws m1 := by funext e m; rw [ev] <;> rfl
theorem ev_idx {a b} : ev T cl (CE.idx a b) = fun e m => (ev T cl a e m).bind fun w m1 => (ev T cl b e m1).bind fun u m2 => idxW w u m2 := by funext e m; rw [ev] <;> rfl
theorem ev_slc {a lo hi} : ev T cl (CE.slc a lo hi) = fun e m => (ev T cl a e m).bind fun w m1 => (prt lo.isN (ev T cl lo e m1)).bind fun l m2 => (prt hi.isN (ev T cl hi e m2)).bind fun h m3 => slcW w l h m3 := by funext e m; rw [ev] <;> rfl
theorem ev_fld {a f} : ev T cl (CE.fld a f) = fun e m => (ev T cl a e m).bind fun w m1 => match w with
    | .obj k => match m1[k]? with
      | some (.ins _ fs) => ofO m1 (fs.lookup f)
      | _ => .bad
    | _ => .bad := by funext e m; rw [ev] <;> rfl
theorem ev_call {f l} : ev T cl (CE.call f l) = fun e m => (evL T cl l e m).bind fun ws m1 => cl f ws m1 := by funext e m; rw [ev] <;> rfl
theorem ev_meth {n r l} : ev T cl (CE.meth n r l) = fun e m => (ev T cl r e m).bind fun w m1 => match w with
    | .obj k => match m1[k]? with
      | some (.ins c _) => match T.cl c with
        | some C => match C.meths.lookup n with
          | some f => (evL T cl l e m1).bind fun ws m2 => cl f (w :: ws) m2
          | none => .bad
        | none => .bad
      | _ => .bad
    | _ => .bad := by funext e m; rw [ev] <;> rfl
theorem ev_make {c l} : ev T cl (CE.make c l) = fun e m => (evL T cl l e m).bind fun ws m1 => match T.cl c with
    | some C => (cl C.init (.obj m1.length :: ws) (m1 ++ [.ins c []])).bind fun w m2 => match w with
      | .non => .ok (.obj m1.length) m2
      | _ => .bad
    | none => .bad := by funext e m; rw [ev] <;> rfl
theorem ev_callK {f l kl pm} : ev T cl (CE.callK f l kl pm) = fun e m => (evL T cl l e m).bind fun ws m1 => (evL T cl kl e m1).bind fun us m2 => match permW pm (ws ++ us) with
    | some vs => cl f vs m2
    | none => .bad := by funext e m; rw [ev] <;> rfl
theorem ev_methK {n r l kl pm} : ev T cl (CE.methK n r l kl pm) = fun e m => (ev T cl r e m).bind fun w m1 => match w with
    | .obj k => match m1[k]? with
      | some (.ins c _) => match T.cl c with
        | some C => match C.meths.lookup n with
          | some f => (evL T cl l e m1).bind fun ws m2 => (evL T cl kl e m2).bind fun us m3 => match permW pm (w :: (ws ++ us)) with
            | some vs => cl f vs m3
            | none => .bad
          | none => .bad
        | none => .bad
      | _ => .bad
    | _ => .bad := by funext e m; rw [ev] <;> rfl
theorem ev_makeK {c l kl pm} : ev T cl (CE.makeK c l kl pm) = fun e m => (evL T cl l e m).bind fun ws m1 => (evL T cl kl e m1).bind fun us m2 => match T.cl c with
    | some C => match permW pm (.obj m2.length :: (ws ++ us)) with
      | some vs => (cl C.init vs (m2 ++ [.ins c []])).bind fun w m3 => match w with
        | .non => .ok (.obj m2.length) m3
        | _ => .bad
      | none => .bad
    | none => .bad := by funext e m; rw [ev] <;> rfl
theorem ev_blt {b l} : ev T cl (CE.blt b l) = fun e m => (evL T cl l e m).bind fun ws m1 => bltW b ws m1 := by funext e m; rw [ev] <;> rfl
theorem ev_bm {n r l} : ev T cl (CE.bm n r l) = fun e m => (ev T cl r e m).bind fun w m1 => if rcvOk n w m1 then (evL T cl l e m1).bind fun ws m2 => bmW n w ws m2 else .bad := by funext e m; rw [ev] <;> rfl
theorem ev_lset {a} : ev T cl (CE.lset a) = fun e m => (ev T cl a e m).bind fun w m1 => lsetW w m1 := by funext e m; rw [ev] <;> rfl
theorem ev_sset {a} : ev T cl (CE.sset a) = fun e m => (ev T cl a e m).bind fun w m1 => ssetW w m1 := by funext e m; rw [ev] <;> rfl
theorem ev_dc {own kx vx t it ifs} : ev T cl (CE.dc own kx vx t it ifs) = fun e m => (evI T cl it e m).bind fun s m1 =>
      (dcRun s m1.length (fun x m2 => match asgT m2 t x (wipeE e own) with
        | some e2 => (evT T cl ifs e2 m2).bind fun b m3 => if b then (ev T cl kx e2 m3).bind fun p m4 => (ev T cl vx e2 m4).bind fun q m5 => .ok (some (p, q)) m5 else .ok none m3
        | none => .bad) (s.len m1 + 1) 0 (m1 ++ [.dct []])).bind fun _ m6 => .ok (.obj m1.length) m6 := by funext e m; rw [ev] <;> rfl
theorem ev_lk {d a} : ev T cl (CE.lk d a) = fun e m => match dctOf (ev T cl d e m) m with
    | some (k, kvs) => unlkR k kvs (ev T cl a e (m.set k (.dcl kvs)))
    | none => .bad := by funext e m; rw [ev] <;> rfl
theorem ev_isi2 {a k1 k2} : ev T cl (CE.isi2 a k1 k2) = fun e m => (ev T cl a e m).bind fun w m1 => isiW m1 w [k1, k2] := by funext e m; rw [ev] <;> rfl
theorem ev_isi {a ks} : ev T cl (CE.isi a ks) = fun e m => (ev T cl a e m).bind fun w m1 => isiW m1 w ks := by funext e m; rw [ev] <;> rfl
theorem ev_lc {own elt t it ifs} : ev T cl (CE.lc own elt t it ifs) = fun e m => (evI T cl it e m).bind fun s m1 =>
      (lcRun s m1.length (fun x m2 => match asgT m2 t x (wipeE e own) with
        | some e2 => (evT T cl ifs e2 m2).bind fun b m3 => if b then (ev T cl elt e2 m3).bind fun w m4 => .ok (some w) m4 else .ok none m3
        | none => .bad) (s.len m1 + 1) 0 (m1 ++ [.lst []])).bind fun _ m5 => .ok (.obj m1.length) m5 := by funext e m; rw [ev] <;> rfl
theorem ev_lc2 {own own2 elt t it t2 it2 ifs2} : ev T cl (CE.lc2 own own2 elt t it t2 it2 ifs2) = fun e m => (evI T cl it e m).bind fun s m1 =>
      (lcRun2 s (fun x m2 => match asgT m2 t x (wipeE e own) with
        | some e2 => (evI T cl it2 e2 m2).bind fun s2 m3 =>
            lcRun s2 m1.length (fun y m4 => match asgT m4 t2 y (wipeE e2 own2) with
              | some e3 => (evT T cl ifs2 e3 m4).bind fun b m5 => if b then (ev T cl elt e3 m5).bind fun w m6 => .ok (some w) m6 else .ok none m5
              | none => .bad) (s2.len m3 + 1) 0 m3
        | none => .bad) (s.len m1 + 1) 0 (m1 ++ [.lst []])).bind fun _ m5 => .ok (.obj m1.length) m5 := by funext e m; rw [ev] <;> rfl
theorem evL_nil  : evL T cl (CL.nil ) = fun e m => .ok [] m := by funext e m; rw [evL] <;> rfl
theorem evL_cons {a l} : evL T cl (CL.cons a l) = fun e m => (ev T cl a e m).bind fun w m1 => (evL T cl l e m1).bind fun ws m2 => .ok (w :: ws) m2 := by funext e m; rw [evL] <;> rfl
theorem evT_nil  : evT T cl (CL.nil ) = fun e m => .ok true m := by funext e m; rw [evT] <;> rfl
theorem evT_cons {a l} : evT T cl (CL.cons a l) = fun e m => (ev T cl a e m).bind fun w m1 => (tru w m1).bind fun b m2 => if b then evT T cl l e m2 else .ok false m2 := by funext e m; rw [evT] <;> rfl
theorem evI_ex {a} : evI T cl (CI.ex a) = fun e m => (ev T cl a e m).bind fun w m1 => ofO m1 ((srcOf m1 w).map .one) := by funext e m; rw [evI] <;> rfl
theorem evI_rng {l} : evI T cl (CI.rng l) = fun e m => (evL T cl l e m).bind fun ws m1 => ofO m1 ((rngW ws).map fun us => .one (.st us)) := by funext e m; rw [evI] <;> rfl
theorem evI_enm {a} : evI T cl (CI.enm a) = fun e m => (ev T cl a e m).bind fun w m1 => ofO m1 ((srcOfE m1 w).map .enm) := by funext e m; rw [evI] <;> rfl
theorem evI_dk {a} : evI T cl (CI.dk a) = fun e m => (ev T cl a e m).bind fun w m1 => match w with
    | .obj k => match m1[k]? with
      | some (.dcl _) => .ok (.one (.dk k)) m1
      | _ => .bad
    | _ => .bad := by funext e m; rw [evI] <;> rfl
theorem evI_zip {l} : evI T cl (CI.zip l) = fun e m => (evL T cl l e m).bind fun ws m1 => match ws with
    | [w, u] => match srcOf m1 w, srcOf m1 u with
      | some b, some c => .ok (.zip b c) m1
      | _, _ => .bad
    | _ => .bad := by funext e m; rw [evI] <;> rfl
theorem xS_pass  : xS T cl (CS.pass ) = fun e m => .next e m := by funext e m; rw [xS] <;> rfl
theorem xS_expr {a} : xS T cl (CS.expr a) = fun e m => .ofR e (ev T cl a e m) fun _ m1 => .next e m1 := by funext e m; rw [xS] <;> rfl
theorem xS_ret {a} : xS T cl (CS.ret a) = fun e m => .ofR e (ev T cl a e m) fun w m1 => .ret w m1 := by funext e m; rw [xS] <;> rfl
theorem xS_retN  : xS T cl (CS.retN ) = fun e m => .ret .non m := by funext e m; rw [xS] <;> rfl
theorem xS_set {i a} : xS T cl (CS.set i a) = fun e m => .ofR e (ev T cl a e m) fun w m1 => .next (e.set i (some w)) m1 := by funext e m; rw [xS] <;> rfl
theorem xS_unp {t a} : xS T cl (CS.unp t a) = fun e m => .ofR e (ev T cl a e m) fun w m1 => match asgT m1 (.tp t) w e with
    | some e' => .next e' m1
    | none => .bad := by funext e m; rw [xS] <;> rfl
theorem xS_par {i j a b} : xS T cl (CS.par i j a b) = fun e m => .ofR e (ev T cl a e m) fun w m1 => .ofR e (ev T cl b e m1) fun u m2 => .next ((e.set i (some w)).set j (some u)) m2 := by funext e m; rw [xS] <;> rfl
theorem xS_sub {o i a} : xS T cl (CS.sub o i a) = fun e m => .ofR e (ev T cl a e m) fun w m1 => .ofR e (ev T cl o e m1) fun u m2 => .ofR e (ev T cl i e m2) fun v m3 => match subW u v w m3 with
    | some m4 => .next e m4
    | none => .bad := by funext e m; rw [xS] <;> rfl
theorem xS_fld {o f a} : xS T cl (CS.fld o f a) = fun e m => .ofR e (ev T cl a e m) fun w m1 => .ofR e (ev T cl o e m1) fun u m2 => match u with
    | .obj k => match m2[k]? with
      | some (.ins c fs) => if fs.length < 900 then .next e (m2.set k (.ins c (putA f w fs))) else .bad
      | _ => .bad
    | _ => .bad := by funext e m; rw [xS] <;> rfl
theorem xS_aug {i a} : xS T cl (CS.aug i a) = fun e m => match e[i]? with
    | some (some w) => .ofR e (ev T cl a e m) fun u m1 => .ofR e (match w, u with
        | .int x, .int y => .ok (.int (x + y)) m1
        | .str x, .str y => if x.length + y.length ≤ SL then .ok (.str (x ++ y)) m1 else .bad
        | _, _ => .bad) fun v m2 => .next (e.set i (some v)) m2
    | _ => .bad := by funext e m; rw [xS] <;> rfl
theorem xS_iff {c a b} : xS T cl (CS.iff c a b) = fun e m => .ofR e (ev T cl c e m) fun w m1 => .ofR e (tru w m1) fun t m2 => if t then xB T cl a e m2 else xB T cl b e m2 := by funext e m; rw [xS] <;> rfl
theorem xS_whl {c b} : xS T cl (CS.whl c b) = fun e m => whRun (fun e1 m1 => (ev T cl c e1 m1).bind tru) (fun e1 m1 => xB T cl b e1 m1) FUEL e m := by funext e m; rw [xS] <;> rfl
theorem xS_for_ {t it b} : xS T cl (CS.for t it b) = fun e m => .ofR e (evI T cl it e m) fun s m1 => forRun s (fun x e1 m2 => match asgT m2 t x e1 with
      | some e2 => xB T cl b e2 m2
      | none => .bad) (s.len m1 + 1) 0 e m1 := by funext e m; rw [xS] <;> rfl
theorem xS_rse {c a} : xS T cl (CS.rse c a) = fun e m => .ofR e (ev T cl a e m) fun w m1 => .rse c w e m1 := by funext e m; rw [xS] <;> rfl
theorem xS_nvr  : xS T cl (CS.nvr ) = fun e m => .bad := by funext e m; rw [xS] <;> rfl
theorem xS_lk {d s} : xS T cl (CS.lk d s) = fun e m => match dctOf (ev T cl d e m) m with
    | some (k, kvs) => unlkS k kvs (xS T cl s e (m.set k (.dcl kvs)))
    | none => .bad := by funext e m; rw [xS] <;> rfl
theorem xB_nil  : xB T cl (CB.nil ) = fun e m => .next e m := by funext e m; rw [xB] <;> rfl
theorem xB_cons {s b} : xB T cl (CB.cons s b) = fun e m => match xS T cl s e m with
    | .next e' m' => xB T cl b e' m'
    | r => r := by funext e m; rw [xB] <;> rfl
end Mi
end

section
set_option Elab.async false
set_option linter.all false
set_option maxRecDepth 100000
set_option maxHeartbeats 4000000
/-! MiW: walks over a dict, under a lock. -/
namespace Mi
open PySem PySem.Spec PyProof.Rows L2
section
variable {G : Dat} {cl : Caller} {k : Nat} {X : Cx} {E : XK} {C : Sco} {fa : Env → Mem → R W} {a tg : Expr}
theorem src_dk {B : List Addr} {H : Hp} {j : Nat} {ad : Addr} {o : Obj} {kvs : List (W × W)} {ks : List (Key × V)} (hj : B[j]? = some ad) (h : H ad = some (.frz o (.dK ks))) : SrcR G.N X.K B H (.one (.dk j)) (Itk ad o ks) := by
  intro B' H' m' i g rm
  have hj' := g.pre _ _ hj
  have h' := g.frz _ _ _ h
  have key : ∀ {kvs' : List (W × W)}, m'[j]? = some (.dcl kvs') → DRel X.K B' H' kvs' ks := by
    intro kvs' hm
    obtain ⟨a', z1, o', ks', z2, z3⟩ := rm.ob _ _ hm
    rw [hj'] at z1
    cases z1
    rw [h'] at z2
    cases z2
    exact z3
  have at_ : ∀ {kvs' : List (W × W)} {i : Nat} {ks' : List (Key × V)}, DRel X.K B' H' kvs' ks' → (kvs'[i]? = none → ks'.length ≤ i) ∧ ∀ p, kvs'[i]? = some p → ∃ kk v, ks'[i]? = some (kk, v) ∧ KeyR p.1 kk := by
    intro kvs' i ks' d
    induction d generalizing i with
    | nil => exact ⟨fun _ => Nat.zero_le _, fun p hp => by simp at hp⟩
    | cons hk _ _ ih =>
      cases i with
      | zero => exact ⟨fun hp => by simp at hp, fun p hp => by
          simp at hp
          subst hp
          exact ⟨_, _, rfl, hk⟩⟩
      | succ i =>
        obtain ⟨q1, q2⟩ := ih (i := i)
        exact ⟨fun hp => by
          have := q1 (by simpa using hp)
          simp
          omega, fun p hp => by simpa using q2 p (by simpa using hp)⟩
  refine ⟨fun q => ?_, fun x q => ?_⟩
  · simp only [Src.at, Bs.at] at q
    split at q
    · rename_i kvs' hm
      refine ⟨h', (at_ (key hm)).1 ?_⟩
      simpa using q
    · cases q
  · simp only [Src.at, Bs.at] at q
    split at q
    · rename_i kvs' hm
      simp only [Option.some.injEq, Option.map_eq_some_iff] at q
      obtain ⟨p, hp, rfl⟩ := q
      obtain ⟨kk, v, e1, e2⟩ := (at_ (key hm)).2 p hp
      refine ⟨⟨h', (List.getElem?_eq_some_iff.mp e1).1⟩, fun u H'' y => ?_⟩
      obtain ⟨rfl, kk', v', e3, rfl⟩ := y
      rw [e1] at e3
      cases e3
      refine ⟨Grow.refl _ _, rm, ?_⟩
      cases p with
      | mk pk pv =>
        cases pk with
        | int n =>
          cases kk with
          | inl n' =>
            cases (show n' = n from e2)
            exact .int _
          | inr _ => exact e2.elim
        | str t =>
          cases kk with
          | inl _ => exact e2.elim
          | inr t' =>
            cases (show t' = sx t from e2)
            exact .str _
        | _ => cases kk <;> exact e2.elim
    · cases q
theorem i_dk (ha : PE X a (DW G X E fa)) : PI X tg a (DI G X E fun e m => (fa e m).bind fun w m1 => match w with
    | .obj k => match m1[k]? with
      | some (.dcl _) => .ok (.one (.dk k)) m1
      | _ => .bad
    | _ => .bad) := by
  refine PI_imp (pi_keys ha) ?_
  rintro σ H R ⟨B, m, e, rm, re, h⟩
  refine ⟨B, m, e, rm, re, (Post.bind (RR := RW X.K) h).imp fun x H1 ⟨B1, m1, w, g, rm1, rw1, h1⟩ => ?_⟩
  split at h1
  · cases rw1 with
    | @obj j ad hj =>
      split at h1
      · rename_i kvs hm
        obtain ⟨a', z1, o, ks, z2, z3⟩ := rm1.ob _ _ hm
        rw [hj] at z1
        cases z1
        exact ⟨ad, o, rfl, .inl ⟨ks, z2, Post.here (RR := SrcR G.N X.K) h1 rm1 (src_dk (kvs := kvs) hj z2)⟩⟩
      · exact h1.elim
  · exact h1.elim
/-- locked, and open again -/
structure Lck (G : Dat) (X : Cx) (B : List Addr) (m : Mem) (H : Hp) (j : Nat) (kvs : List (W × W)) (ad : Addr) (ks : List (Key × V)) : Prop where
  hk : B[j]? = some ad
  h : H ad = some (.dK ks)
  d : DRel X.K B H kvs ks
  back : ∀ (od : Obj) (B' : List Addr) (m' : Mem) (H' : Hp), Grow B B' (upd H ad (.frz od (.dK ks))) H' → RelM G.N X.K B' m' H' → H' ad = some (.frz od (.dK ks)) ∧ RelM G.N X.K B' (m'.set j (.dct kvs)) (upd H' ad (.dK ks)) ∧ Grow B B' H (upd H' ad (.dK ks)) ∧ GrowL B' B' H' (upd H' ad (.dK ks))
theorem lck_of {B : List Addr} {m : Mem} {H : Hp} {r : R W} {j : Nat} {kvs : List (W × W)} (rm : RelM G.N X.K B m H) (h : dctOf r m = some (j, kvs)) : ∃ ad ks, Lck G X B m H j kvs ad ks := by
  unfold dctOf at h
  split at h
  · split at h
    · rename_i hm
      cases h
      obtain ⟨ad, hk, ks, q1, q2⟩ := rm.ob _ _ hm
      refine ⟨ad, ks, hk, q1, q2, fun od B' m' H' g rm' => ?_⟩
      have z := g.frz ad od _ upd_same
      have hk' := g.pre _ _ hk
      have gl : Grow B B H (upd H ad (.frz od (.dK ks))) := grow_upd (fun xs e => by rw [q1] at e; cases e) fun o z e => by rw [q1] at e; cases e
      obtain ⟨u1, u2⟩ := rm'.unlock hk' z ((q2.grow gl).grow g)
      refine ⟨z, u1, ⟨g.pre, fun a xs e => ?_, fun a o u e => ?_⟩, u2⟩
      · have hne : a ≠ ad := fun z => by rw [z, q1] at e; cases e
        exact (upd_ne hne).trans (g.tup a xs ((upd_ne hne).trans e))
      · have hne : a ≠ ad := fun z => by rw [z, q1] at e; cases e
        exact (upd_ne hne).trans (g.frz a o u ((upd_ne hne).trans e))
    · cases h
  · cases h
theorem lock_rdE {fd f : Env → Mem → R W} {σ : L2.St} {H : Hp} {Q : VK} (h : DW G X E (fun e m => match dctOf (fd e m) m with
    | some (k, kvs) => unlkR k kvs (f e (m.set k (.dcl kvs)))
    | none => .bad) σ H Q) : tLockE (DW G X E f) σ H Q := by
  obtain ⟨B, m, e, rm, re, h⟩ := h
  cases hd : dctOf (fd e m) m with
  | none =>
    simp only [hd] at h
    exact h.elim
  | some p =>
    obtain ⟨j, kvs⟩ := p
    simp only [hd] at h
    obtain ⟨ad, ks, L⟩ := lck_of rm hd
    refine ⟨ad, .dK ks, L.h, trivial, fun od => ?_⟩
    obtain ⟨l1, l2⟩ := rm.lock (od := od) L.hk L.h L.d
    refine ⟨B, m.set j (.dcl kvs), e, l1, re.grow l2, ?_⟩
    cases q : f e (m.set j (.dcl kvs)) with
    | bad => rw [q] at h; exact h.elim
    | rse _ _ _ => rw [q] at h; exact h.elim
    | ok w m' =>
      rw [q] at h
      intro B' H' v g rm' rv
      obtain ⟨z1, z2, z3, z4⟩ := L.back od B' m' H' g rm'
      exact ⟨z1, h B' _ v z3 z2 (Rep.growL z4 _ _ rv)⟩
theorem lock_rdS {fd : Env → Mem → R W} {f : Env → Mem → RS} {σ : L2.St} {H : Hp} {D : Ends} (h : DS G X E (fun e m => match dctOf (fd e m) m with
    | some (k, kvs) => unlkS k kvs (f e (m.set k (.dcl kvs)))
    | none => .bad) D σ H) : tLock (DS G X E f) D σ H := by
  obtain ⟨B, m, e, rm, re, h⟩ := h
  cases hd : dctOf (fd e m) m with
  | none =>
    simp only [hd] at h
    exact h.elim
  | some p =>
    obtain ⟨j, kvs⟩ := p
    simp only [hd] at h
    obtain ⟨ad, ks, L⟩ := lck_of rm hd
    refine ⟨ad, .dK ks, L.h, trivial, fun od => ?_⟩
    obtain ⟨l1, l2⟩ := rm.lock (od := od) L.hk L.h L.d
    refine ⟨B, m.set j (.dcl kvs), e, l1, re.grow l2, ?_⟩
    cases q : f e (m.set j (.dcl kvs)) with
    | bad => rw [q] at h; exact h.elim
    | rse _ _ _ _ => rw [q] at h; exact h.elim
    | next e' m' =>
      rw [q] at h
      intro B' H' σ' g rm' re'
      obtain ⟨z1, z2, z3, z4⟩ := L.back od B' m' H' g rm'
      exact ⟨z1, h B' _ σ' z3 z2 (re'.growL z4)⟩
    | ret w m' =>
      rw [q] at h
      intro B' H' v g rm' rv
      obtain ⟨z1, z2, z3, z4⟩ := L.back od B' m' H' g rm'
      exact ⟨z1, h B' _ v z3 z2 (Rep.growL z4 _ _ rv)⟩
end
end Mi
end

section
set_option Elab.async false
set_option linter.all false
set_option maxRecDepth 100000
set_option maxHeartbeats 4000000
/-! MiU: zip of two, of lists, tuples and texts alike. -/
namespace Mi
open PySem PySem.Spec PyProof.Rows L2

/-- one of what a zip goes through -/
inductive Cp where
  | lst (a : Addr) | tup (a : Addr) | txt (x : Str) (t : Tok)
def Cp.it (K : PySem.W.Frag) : Cp → It
  | .lst a => Itl K a
  | .tup a => Itt K a
  | .txt x _ => Its x
def Cp.fp : Cp → List Addr
  | .lst a => [a]
  | .tup a => [a]
  | .txt _ _ => []
/-- its iterator, at i -/
def Cp.St (c : Cp) (it : Addr) (i : Nat) (h : Heap) : Prop := match c with
  | .lst a => h.IsListIter it a i
  | .tup a => h.IsTupleIter it a i
  | .txt x t => i ≤ x.cps.size ∧ h.IsStrIter it (strIterType x) x t i
theorem Cp.obj {c : Cp} {it : Addr} {i : Nat} {h : Heap} (st : c.St it i h) : ∃ o, h.get? it = some o ∧ ∀ v, o.data ≠ .cell v := by
  cases c with
  | lst a => obtain ⟨o, ho, _, hd⟩ := st; exact ⟨o, ho, fun v q => by rw [hd] at q; cases q⟩
  | tup a => obtain ⟨o, ho, _, hd⟩ := st; exact ⟨o, ho, fun v q => by rw [hd] at q; cases q⟩
  | txt x t => obtain ⟨_, o, ho, _, hd⟩ := st; exact ⟨o, ho, fun v q => by rw [hd] at q; cases q⟩
theorem Cp.keep {c : Cp} {it : Addr} {i : Nat} {h h' : Heap} (st : c.St it i h) (k : ∀ o, h.get? it = some o → h'.get? it = some o) : c.St it i h' := by
  cases c with
  | lst a => exact Heap.IsListIter.at st k
  | tup a => exact Heap.IsTupleIter.at st k
  | txt x t => obtain ⟨hz, o, ho, r⟩ := st; exact ⟨hz, o, k o ho, r⟩
/-- an iterator at its end -/
theorem draws_stop {prog : Program} {w : World} {A : Around} {it : Addr} {fp : List Addr} {i : Nat} {St : Heap → Prop} (live : ∀ h, St h → ∃ o, h.get? it = some o) (frame : ∀ h h', St h → (∀ b ∈ fp, ∀ o, h.get? b = some o → h'.get? b = some o) → St h')
    (done : ∀ (s : Shared) (Q : Value → Shared → Prop) (E : Value → Shared → Prop), St s.heap → (∀ h' e, Heap.ExtBut it s.heap h' → (∃ o, h'.get? e = some o ∧ o.cls = .type "StopIteration") → E (.ref e) { s with heap := h' }) → wpAny (model prog w) A (Builtin.SmallTypes.nextOf (.ref it)) Q E s) :
    Draws prog w A it fp i (fun _ _ => False) (fun j h => j = i ∧ St h) where
  live := fun _ h st => live h st.2
  frame := fun _ h h' st k => ⟨st.1, frame h h' st.2 k⟩
  item := fun j s Q E hj st _ => absurd st.1 (Nat.ne_of_lt hj)
  done := fun s Q E st hE => done s Q E st.2 hE
section
variable {X : Cx} {pins : List (Addr × Obj)} {σ : L2.St} {H : Hp} {s : Shared} {A : Around}
theorem Cp.draws {c : Cp} {it : Addr} {i : Nat} (I : Inv X pins σ H s) (hh : A.handled = none) (st : c.St it i s.heap) (hg : (c.it X.K).go i H) (hn : it ∉ c.fp) :
    ∃ (n : Nat) (P : Nat → Value → Prop) (S : Nat → Heap → Prop), Draws X.prog X.w A it (it :: c.fp) n P S ∧ S i s.heap ∧ i < n ∧ (∀ u, P i u → ∃ v, RelV v u ∧ (c.it X.K).yld i H v H) ∧ ∀ h, S (i + 1) h → c.St it (i + 1) h := by
  cases c with
  | lst a =>
    obtain ⟨xs, x, hq, hx⟩ := hg
    obtain ⟨its, rv, p, hz⟩ := I.list hq
    obtain ⟨u, hu, ru⟩ := rv.get hx
    have hlt : i < its.toArray.size := by
      have := (List.getElem?_eq_some_iff.mp hu).1
      simpa using this
    exact ⟨_, _, _, Draws.list hh it a (by simpa using Ne.symm (by simpa [Cp.fp] using hn)) its.toArray, ⟨st, p.isList⟩, hlt, fun u' hu' => ⟨x, by
      have : its[i]? = some u' := by simpa using hu'
      rw [hu] at this
      cases this
      exact ru, rfl, fun ys hy => by rw [I.list_inj hy hq]; exact hx⟩, fun h S => S.1⟩
  | tup a =>
    obtain ⟨xs, x, hq, hx⟩ := hg
    obtain ⟨its, rv, p, hz⟩ := I.tuple hq
    obtain ⟨u, hu, ru⟩ := rv.get hx
    have hlt : i < its.toArray.size := by
      have := (List.getElem?_eq_some_iff.mp hu).1
      simpa using this
    exact ⟨_, _, _, Draws.tuple hh it a (by simpa using Ne.symm (by simpa [Cp.fp] using hn)) its.toArray, ⟨st, p⟩, hlt, fun u' hu' => ⟨x, by
      have : its[i]? = some u' := by simpa using hu'
      rw [hu] at this
      cases this
      exact ru, rfl, fun ys hy => by rw [I.tuple_inj hy hq]; exact hx⟩, fun h S => S.1⟩
  | txt x t =>
    obtain ⟨hz, st⟩ := st
    have hg : i < x.cps.size := hg
    exact ⟨_, _, _, Draws.text hh it x t, st, hg, fun u' hu' => by
      obtain ⟨ch, tk, hc, rfl⟩ := hu'
      exact ⟨.str ⟨#[ch]⟩, ⟨_, rfl⟩, rfl, ch, hc, rfl⟩, fun h S => ⟨hg, S⟩⟩
theorem Cp.ends {c : Cp} {it : Addr} {i : Nat} (I : Inv X pins σ H s) (hh : A.handled = none) (st : c.St it i s.heap) (hg : (c.it X.K).stop i H) :
    ∃ (P : Nat → Value → Prop) (S : Nat → Heap → Prop), Draws X.prog X.w A it (it :: c.fp) i P S ∧ S i s.heap := by
  cases c with
  | lst a =>
    obtain ⟨xs, hq, hx⟩ := hg
    obtain ⟨its, rv, p, hz⟩ := I.list hq
    have hl := rv.length
    exact ⟨_, _, draws_stop (St := fun h => h.IsListIter it a i ∧ h.IsList a its.toArray) (fun h S => let ⟨o, ho, _⟩ := S.1; ⟨o, ho⟩) (fun h h' S k => ⟨S.1.at fun o e => k it (by simp) o e, S.2.at fun o e => k a (by simp [Cp.fp]) o e⟩)
      (fun s Q E S hE => wpAny_nextOf_list_end hh S.1 S.2 (by simp; omega) hE), rfl, st, p.isList⟩
  | tup a =>
    obtain ⟨xs, hq, hx⟩ := hg
    obtain ⟨its, rv, p, hz⟩ := I.tuple hq
    have hl := rv.length
    exact ⟨_, _, draws_stop (St := fun h => h.IsTupleIter it a i ∧ h.IsTuple a its.toArray) (fun h S => let ⟨o, ho, _⟩ := S.1; ⟨o, ho⟩) (fun h h' S k => ⟨S.1.at fun o e => k it (by simp) o e, S.2.at fun o e => k a (by simp [Cp.fp]) o e⟩)
      (fun s Q E S hE => wpAny_nextOf_tuple_end hh S.1 S.2 (by simp; omega) hE), rfl, st, p⟩
  | txt x t =>
    obtain ⟨hz, st⟩ := st
    have ei : i = x.cps.size := Nat.le_antisymm hz hg
    subst ei
    exact ⟨_, _, Draws.text hh it x t, st⟩
end
/-- two walked side by side, the items in new pairs -/
def Itzz (J1 J2 : It) : It := ⟨fun i H => J1.go i H ∧ J2.go i H, fun i H v H' => ∃ T x y, v = .ref T ∧ H T = none ∧ H' = upd H T (.tup [x, y]) ∧ J1.yld i H x H ∧ J2.yld i H y H, fun i H => (J1.stop i H ∧ (J2.stop i H ∨ J2.go i H)) ∨ (J1.go i H ∧ J2.stop i H)⟩
theorem turn_zz {P : Program} {w : World} {K : PySem.W.Frag} {elts : List Expr} {kk : Nat} {tpos : Pos} {c1 c2 : Cp} {z TI TO i1 i2 : Addr} (D : ZipSep2 z TI TO i1 i2 (i1 :: c1.fp) (i2 :: c2.fp)) (n1 : i1 ∉ c1.fp) (n2 : i2 ∉ c2.fp) :
    Turn P w K (.Tuple elts kk tpos) (Itzz (c1.it K) (c2.it K)) [z, TI, TO, i1, i2] z (fun i h => IsZip h z TI TO .none ∧ IsPair h TI (.ref i1) (.ref i2) ∧ (∃ x y, IsPair h TO x y) ∧ c1.St i1 i h ∧ c2.St i2 i h) where
  mem := by simp
  obj := fun i h st c hc => by
    obtain ⟨hz, hTI, ⟨x, y, hTO⟩, h1, h2⟩ := st
    have e' : c = z ∨ c = TI ∨ c = TO ∨ c = i1 ∨ c = i2 := by simpa using hc
    rcases e' with q | q | q | q | q
    · rw [q]; exact ⟨_, hz, fun v q => nomatch q⟩
    · rw [q]; exact ⟨_, hTI, fun v q => nomatch q⟩
    · rw [q]; exact ⟨_, hTO, fun v q => nomatch q⟩
    · rw [q]; exact Cp.obj h1
    · rw [q]; exact Cp.obj h2
  keep := fun i h h' st k => by
    obtain ⟨hz, hTI, ⟨x, y, hTO⟩, h1, h2⟩ := st
    exact ⟨k z (by simp) _ hz, k TI (by simp) _ hTI, ⟨x, y, k TO (by simp) _ hTO⟩, Cp.keep h1 fun o q => k i1 (by simp) o q, Cp.keep h2 fun o q => k i2 (by simp) o q⟩
  item := by
    intro X hP hw hK hc i pins s σ H E I hf st hg
    subst hP hw hK
    obtain ⟨hz, hTI, ⟨x0, y0, hTO⟩, h1, h2⟩ := st
    obtain ⟨m1, P1, S1, D1, st1, l1, r1, t1⟩ := Cp.draws (A := X.A.in1) I (I.ok.hd hc) h1 hg.1 n1
    obtain ⟨m2, P2, S2, D2, st2, l2, r2, t2⟩ := Cp.draws (A := X.A.in1) I (I.ok.hd hc) h2 hg.2 n2
    have hzl : z < s.heap.objs.size := Heap.lt_size hz
    refine wpAny_pyNext_zipD2_item D D1 D2 hz hTI hTO st1 st2 l1 l2 fun u u2 h' tk p1 p2 z' TO' h1' h2' hT hsz hk => ?_
    obtain ⟨x, ru, yx⟩ := r1 u p1
    obtain ⟨y, ru2, yy⟩ := r2 u2 p2
    refine ⟨_, rfl, wpAny_letOwnedTupleGo_zip (s := { s with heap := h', toks := tk }) z' fun h'' z'' sb => ?_⟩
    have hT2 : h''.get? s.heap.objs.size = some { cls := .type "tuple", data := .seq #[u, u2] } := (sb.2 _ (Nat.ne_of_gt hzl)).trans hT
    have new : ObjOk X.prog X.w (upd H s.heap.objs.size (.tup [x, y])) h'' s.heap.objs.size (.tup [x, y]) :=
      ⟨by show 2 ≤ sizeLine; decide, [u, u2], .cons ru (.cons ru2 .nil), ⟨_, hT2, rfl, _, rfl⟩⟩
    have I1 : Inv X pins σ (upd H s.heap.objs.size (.tup [x, y])) { s with heap := h'', toks := tk } :=
      I.turnedNew (t' := tk) (ch := [z, TI, TO, i1, i2]) (fun c o hb q => (sb.2 c (fun q' => hb (by simp [q']))).trans (hk c o (fun q' => hb (by simp [q'])) (fun q' => hb (by simp [q'])) (fun q' => hb (by simp [q'])) (fun q' => hb (by simp [q'])) q)) hf (Nat.le_refl _) new
    refine ⟨.ref s.heap.objs.size, _, I1, rfl, ⟨_, x, y, rfl, I.hok.fresh (Nat.le_refl _), rfl, yx, yy⟩, ⟨z'', ?_, ⟨u, u2, ?_⟩, ?_, ?_⟩, fun c hcm => ?_⟩
    · exact (sb.2 _ D.TIz).trans (hk _ _ D.TIz D.TITO D.TIi1 D.TIi2 hTI)
    · exact (sb.2 _ D.TOz).trans TO'
    · exact Cp.keep (t1 _ h1') fun o q => (sb.2 _ (Ne.symm D.zi1)).trans q
    · exact Cp.keep (t2 _ h2') fun o q => (sb.2 _ (Ne.symm D.zi2)).trans q
    · have hlt : c < s.heap.objs.size := by
        have e' : c = z ∨ c = TI ∨ c = TO ∨ c = i1 ∨ c = i2 := by simpa using hcm
        rcases e' with q | q | q | q | q
        · rw [q]; exact hzl
        · rw [q]; exact Heap.lt_size hTI
        · rw [q]; exact Heap.lt_size hTO
        · rw [q]; obtain ⟨_, e1, _⟩ := Cp.obj h1; exact Heap.lt_size e1
        · rw [q]; obtain ⟨_, e2, _⟩ := Cp.obj h2; exact Heap.lt_size e2
      rw [upd_ne (Nat.ne_of_lt hlt)]
      exact (hf c hcm).1
  done := by
    intro X hP hw hK hc i pins s σ H E I hf st hg
    subst hP hw hK
    obtain ⟨hz, hTI, ⟨x0, y0, hTO⟩, h1, h2⟩ := st
    have fin : ∀ (h' : Heap) (tk : Nat), (∀ c o, c ≠ z → c ≠ TO → c ≠ i1 → c ≠ i2 → s.heap.get? c = some o → h'.get? c = some o) → Inv X pins σ H { s with heap := h', toks := tk } := fun h' tk hk =>
      I.turnedL (t' := tk) (ch := [z, TI, TO, i1, i2]) (fun c o hb q => hk c o (fun q' => hb (by simp [q'])) (fun q' => hb (by simp [q'])) (fun q' => hb (by simp [q'])) (fun q' => hb (by simp [q'])) q) hf
    rcases hg with ⟨g1, g2 | g2⟩ | ⟨g1, g2⟩
    · obtain ⟨P1, S1, D1, st1⟩ := Cp.ends (A := X.A.in1) I (I.ok.hd hc) h1 g1
      obtain ⟨P2, S2, D2, st2⟩ := Cp.ends (A := X.A.in1) I (I.ok.hd hc) h2 g2
      exact wpAny_pyNext_zipD2_end D D1 D2 hz hTI hTO st1 st2 (Nat.le_refl _) (Nat.le_refl _) (.inl rfl) fun h' tk hk => ⟨rfl, fin h' tk hk⟩
    · obtain ⟨P1, S1, D1, st1⟩ := Cp.ends (A := X.A.in1) I (I.ok.hd hc) h1 g1
      obtain ⟨m2, P2, S2, D2, st2, l2, _, _⟩ := Cp.draws (A := X.A.in1) I (I.ok.hd hc) h2 g2 n2
      exact wpAny_pyNext_zipD2_end D D1 D2 hz hTI hTO st1 st2 (Nat.le_refl _) (Nat.le_of_lt l2) (.inl rfl) fun h' tk hk => ⟨rfl, fin h' tk hk⟩
    · obtain ⟨m1, P1, S1, D1, st1, l1, _, _⟩ := Cp.draws (A := X.A.in1) I (I.ok.hd hc) h1 g1 n1
      obtain ⟨P2, S2, D2, st2⟩ := Cp.ends (A := X.A.in1) I (I.ok.hd hc) h2 g2
      exact wpAny_pyNext_zipD2_end D D1 D2 hz hTI hTO st1 st2 (Nat.le_of_lt l1) (Nat.le_refl _) (.inr rfl) fun h' tk hk => ⟨rfl, fin h' tk hk⟩
  self := fun A i s Q E st h => wpAny_pyIter_zip st.1 h
section
variable {G : Dat} {cl : Caller} {k : Nat} {X : Cx} {E : XK} {C : Sco} {fa fb fc : Env → Mem → R W} {fl : Env → Mem → R (List W)} {a b c o tg : Expr} {es : List Expr} {pos : Pos}
theorem src_zip {B : List Addr} {H : Hp} {bs cs : Bs} {c1 c2 : Cp} (h1 : SrcR G.N X.K B H (.one bs) (c1.it X.K)) (h2 : SrcR G.N X.K B H (.one cs) (c2.it X.K)) : SrcR G.N X.K B H (.zip bs cs) (Itzz (c1.it X.K) (c2.it X.K)) := by
  intro B' H' m' i g rm
  obtain ⟨a1, a2⟩ := h1 B' H' m' i g rm
  obtain ⟨b1, b2⟩ := h2 B' H' m' i g rm
  simp only [Src.at] at a1 a2 b1 b2
  constructor
  · intro q
    simp only [Src.at] at q
    cases e1 : bs.at i m' with
    | none => rw [e1] at q; cases e2 : cs.at i m' with
      | none => rw [e2] at q; cases q
      | some o2 => cases o2 <;> (rw [e2] at q; cases q)
    | some o1 => cases e2 : cs.at i m' with
      | none => rw [e1, e2] at q; cases o1 <;> cases q
      | some o2 =>
        cases o1 with
        | none => cases o2 with
          | none => exact .inl ⟨a1 e1, .inl (b1 e2)⟩
          | some u => exact .inl ⟨a1 e1, .inr (b2 u e2).1⟩
        | some w => cases o2 with
          | none => exact .inr ⟨(a2 w e1).1, b1 e2⟩
          | some u => rw [e1, e2] at q; cases q
  · intro w q
    simp only [Src.at] at q
    cases e1 : bs.at i m' with
    | none => rw [e1] at q; cases e2 : cs.at i m' with
      | none => rw [e2] at q; cases q
      | some o2 => cases o2 <;> (rw [e2] at q; cases q)
    | some o1 => cases e2 : cs.at i m' with
      | none => rw [e1, e2] at q; cases o1 <;> cases q
      | some o2 =>
        cases o1 with
        | none => rw [e1, e2] at q; cases o2 <;> cases q
        | some u => cases o2 with
          | none => rw [e1, e2] at q; cases q
          | some u2 =>
            rw [e1, e2] at q
            cases q
            obtain ⟨q1, q2⟩ := a2 u e1
            obtain ⟨q3, q4⟩ := b2 u2 e2
            refine ⟨⟨q1, q3⟩, ?_⟩
            rintro v H2 ⟨T, x, y, rfl, hT, rfl, y1, y2⟩
            obtain ⟨_, _, r1⟩ := q2 x H' y1
            obtain ⟨_, _, r2⟩ := q4 y H' y2
            exact ⟨grow_none hT, rm.side hT, .tup (SqT.of upd_same) (.cons (Rep.grow (grow_none hT) _ _ r1) (.cons (Rep.grow (grow_none hT) _ _ r2) .nil))⟩
theorem cp_of {w : W} {x : V} {u : Value} {bs : Bs} {B : List Addr} {m : Mem} {H : Hp} {pins : List (Addr × Obj)} {σ : L2.St} {s : Shared} (I : Inv X pins σ H s) (rm : RelM G.N X.K B m H) (r : Rep X.K B H w x) (ru : RelV x u) (h : srcOf m w = some bs) :
    ∃ (c : Cp) (o : Obj) (H0 : Heap → Prop), Begins u o H0 ∧ H0 s.heap ∧ (∀ (h' : Heap) (it : Addr), h'.get? it = some o → c.St it 0 h') ∧ SrcR G.N X.K B H (.one bs) (c.it X.K) ∧ ∀ b ∈ c.fp, b < s.heap.objs.size := by
  rcases it_of rm r h with ⟨t, rfl, rfl, hJ⟩ | ⟨ad, vs, ws, rfl, rfl, hs, hJ⟩ | ⟨ad, vs, rfl, hs, hJ⟩
  · obtain ⟨tk, rfl⟩ := ru
    exact ⟨.txt (sx t) tk, _, _, begins_text (sx t) tk, trivial, fun h' it e => ⟨Nat.zero_le _, _, e, rfl, rfl⟩, hJ, fun b hb => (by cases hb)⟩
  · cases ru
    obtain ⟨its, rv, p, hz⟩ := I.tuple hs
    have hlt : ad < s.heap.objs.size := by obtain ⟨o, ho, _⟩ := id p; exact Heap.lt_size ho
    exact ⟨.tup ad, _, _, begins_tuple ad its.toArray, p, fun h' it e => ⟨_, e, rfl, rfl⟩, hJ, fun b hb => by rw [List.mem_singleton.mp hb]; exact hlt⟩
  · cases ru
    obtain ⟨its, rv, p, hz⟩ := I.list hs
    exact ⟨.lst ad, _, _, begins_list ad its.toArray, p.isList, fun h' it e => ⟨_, e, rfl, rfl⟩, hJ, fun b hb => by rw [List.mem_singleton.mp hb]; exact p.lt⟩
theorem i_zip {p tpos : Pos} {elts : List Expr} {kk : Nat} (K : Cok G cl k X E C) (hg : gloB C "zip" = true) (hl : PA X [a, b] (DL G X E fl)) (hn : Len fl 2) (hs : noStar a = true) (hs2 : noStar b = true) :
    PI X (.Tuple elts kk tpos) (.Call (.Name "zip" p) [a, b] [] pos) (DI G X E fun e m => (fl e m).bind fun ws m1 => match ws with
    | [w, u] => match srcOf m1 w, srcOf m1 u with
      | some b, some c => .ok (.zip b c) m1
      | _, _ => .bad
    | _ => .bad) := by
  refine ⟨fun pins s σ H R I ⟨B, m, e, rm, re, h⟩ => ?_⟩
  refine Call_ (ld_blt I (glo_of K.sc hg) (K.tab.bl _ (by decide)) PyProof.Rows.boot_zip (PyProof.Rows.callWith_type1 (thn (hl.run pos pins s σ H _ I ⟨B, m, e, rm, re, Post.list hn h⟩) fun us s1 ⟨vs, H1, I1, r1, B1, m1, ws, hw, g, rm1, rs, h1⟩ => ?_) (by rw [star_cons hs, star_cons hs2] <;> rfl) (by rw [star_cons hs2] <;> rfl)))
  obtain ⟨w, w2, rfl⟩ : ∃ w w2, ws = [w, w2] := by
    match ws, hw with
    | [w, w2], _ => exact ⟨w, w2, rfl⟩
  obtain ⟨x, x2, rfl, rx, rx2⟩ := rs.two
  cases r1 with
  | cons r rr =>
    cases rr with
    | cons r' rr =>
      cases rr
      dsimp only at h1
      cases e1 : srcOf m1 w with
      | none => rw [e1] at h1; exact h1.elim
      | some bs => cases e2 : srcOf m1 w2 with
        | none => rw [e1, e2] at h1; exact h1.elim
        | some cs =>
          rw [e1, e2] at h1
          obtain ⟨c1, o1, H1', B1', g1, t1, j1, f1⟩ := cp_of I1 rm1 rx r e1
          obtain ⟨c2, o2, H2', B2', g2, t2, j2, f2⟩ := cp_of I1 rm1 rx2 r' e2
          have fresh5 : ∀ c, c ∈ [s1.heap.objs.size + 4, s1.heap.objs.size + 2, s1.heap.objs.size + 3, s1.heap.objs.size, s1.heap.objs.size + 1] → FpOk X pins H1 c := fun c hcm => by
            have e' : c = s1.heap.objs.size + 4 ∨ c = s1.heap.objs.size + 2 ∨ c = s1.heap.objs.size + 3 ∨ c = s1.heap.objs.size ∨ c = s1.heap.objs.size + 1 := by simpa using hcm
            have hle : s1.heap.objs.size ≤ c := by
              rcases e' with z | z | z | z | z
              · rw [z]; exact Nat.le_add_right _ _
              · rw [z]; exact Nat.le_add_right _ _
              · rw [z]; exact Nat.le_add_right _ _
              · rw [z]; exact Nat.le_refl _
              · rw [z]; exact Nat.le_add_right _ _
            exact I1.fpOk hle (I1.hok.fresh hle)
          refine zip_begins2 B1' B2' g1 g2 fun h' hz hTI hTO q1 q2 hsz hk => wpAny_pyIter_zip hz ?_
          have I2 : Inv X pins σ H1 { s1 with heap := h' } := I1.kept (t' := s1.toks) hk
          have m1n : s1.heap.objs.size ∉ c1.fp := fun q => absurd (f1 _ q) (Nat.lt_irrefl _)
          have m2n : s1.heap.objs.size + 1 ∉ c2.fp := fun q => absurd (f2 _ q) (Nat.not_lt.mpr (Nat.le_succ _))
          exact ⟨s1.heap.objs.size + 4, [s1.heap.objs.size + 4, s1.heap.objs.size + 2, s1.heap.objs.size + 3, s1.heap.objs.size, s1.heap.objs.size + 1], _, _, H1, rfl, I2, turn_zz (zip_sep2 f1 f2) m1n m2n, ⟨hz, hTI, ⟨_, _, hTO⟩, t1 _ _ q1, t2 _ _ q2⟩, fresh5, Post.here (RR := SrcR G.N X.K) h1 rm1 (src_zip j1 j2)⟩
end
end Mi
end

section
set_option Elab.async false
set_option linter.all false
set_option maxRecDepth 100000
set_option maxHeartbeats 4000000
/-! MiO: the induction: a tree that the look accepts does what the interpreter says. -/
namespace Mi
open PySem PySem.Spec PyProof.Rows L2

structure SE (G : Dat) (X : Cx) (E : XK) (e : Expr) (f : Env → Mem → R W) : Prop where
  pe : PE X e (DW G X E f)
  pt : PT X e (DT G X E f)
  pw : ∀ op vs pos, e = .BoolOp op vs pos → PW X e (DT G X E f)
  ns : noStar e = true
theorem SE.of {G : Dat} {X : Cx} {E : XK} {e : Expr} {f : Env → Mem → R W} (h : PE X e (DW G X E f)) (he : ∀ whole, isTrue e X.env whole = (do let v ← whole; standAt e.pos; holding [v] (truthy v))) (hb : ∀ op vs pos, e ≠ .BoolOp op vs pos) (hs : noStar e = true := by rfl) : SE G X E e f :=
  ⟨h, t_val h he, fun op vs pos q => absurd q (hb op vs pos), hs⟩
theorem SE.of2 {G : Dat} {X : Cx} {E : XK} {e : Expr} {f : Env → Mem → R W} (h : PE X e (DW G X E f)) (ht : PT X e (DT G X E f)) (hb : ∀ op vs pos, e ≠ .BoolOp op vs pos) (hs : noStar e = true := by rfl) : SE G X E e f :=
  ⟨h, ht, fun op vs pos q => absurd q (hb op vs pos), hs⟩
structure SLs (G : Dat) (cl : Caller) (X : Cx) (E : XK) (es : List Expr) (l : CL) : Prop where
  pa : PA X es (DL G X E (evL G.T cl l))
  len : Len (evL G.T cl l) es.length
  ns : ∀ e ∈ es, noStar e = true
  ts : es.length ≤ 1 → PTs X es (DTb G X E (evT G.T cl l))
section
variable {G : Dat} {cl : Caller} {k : Nat}
theorem mem_lk {A : Type} {c : Nat} {a : A} : ∀ {l : List (Nat × A)}, l.lookup c = some a → (c, a) ∈ l
  | [], h => by cases h
  | (x, y) :: r, h => by
    rw [List.lookup_cons] at h
    split at h
    · rename_i z
      cases h
      rw [eq_of_beq z]
      exact List.mem_cons_self
    · exact List.mem_cons_of_mem _ (mem_lk h)
theorem arF_of {j f : Nat} {F : FnD} (h : arF G j f = true) (hF : G.df f = some F) : F.pl = true ∧ F.ps.length = j := by
  unfold arF at h
  rw [hF] at h
  have h' := Bool.and_eq_true_iff.mp h
  exact ⟨h'.1, of_decide_eq_true h'.2⟩
theorem arM_of {n j : Nat} (h : arM G n j = true) : ArOk G n j := fun c D f F h1 h2 h3 => by
  unfold arM at h
  have q := List.all_eq_true.mp h (c, D) (mem_lk h1)
  dsimp only at q
  rw [h2] at q
  exact arF_of q h3
theorem hasM_of {m n : Nat} {ks : List Str} {pm : List Pk} (h : hasM G m n ks pm = true) : ∀ (c : Nat) (D : Cl) (f : Nat), G.T.cl c = some D → D.meths.lookup m = some f → (⟨f, n, ks, pm⟩ : Shp) ∈ G.KS := fun c D f h1 h2 => by
  unfold hasM at h
  have q := List.all_eq_true.mp h (c, D) (mem_lk h1)
  dsimp only at q
  rw [h2] at q
  exact hasK_mem q
theorem hasC_of {c n : Nat} {ks : List Str} {pm : List Pk} (h : hasC G c n ks pm = true) : ∀ D, G.T.cl c = some D → (⟨D.init, n, ks, pm⟩ : Shp) ∈ G.KS := fun D h1 => by
  unfold hasC at h
  rw [h1] at h
  exact hasK_mem h
theorem arC_of {c j : Nat} (h : arC G c j = true) : ∀ D F, G.T.cl c = some D → G.df D.init = some F → F.pl = true ∧ F.ps.length = j := fun D F h1 h2 => by
  unfold arC at h
  rw [h1] at h
  exact arF_of h h2
theorem fnK_of {C : Sco} {X : Cx} (hs : X.env.scope = C.sc) (h : fnK C = true) : X.env.scope.kind = .function := by
  rw [hs]
  unfold fnK at h
  split at h
  · assumption
  · cases h
theorem sl_of {own : List Nat} {ss : List Nat} (h : (ss.all fun i => own.contains i) = true) : ∀ i ∈ ss, i ∈ own := fun i hi => by
  have := List.all_eq_true.mp h i hi
  simpa using this
theorem len_cons {l : CL} {a : CE} {n : Nat} (h : Len (evL G.T cl l) n) : Len (evL G.T cl (.cons a l)) (n + 1) := fun e m ws m' q => by
  rw [evL_cons] at q
  obtain ⟨w, m1, _, q⟩ := bind_ok q
  obtain ⟨us, m2, q1, q⟩ := bind_ok q
  cases q
  simp [h _ _ _ _ q1]
/-! ### targets -/
mutual
theorem T_ok : ∀ (t : CT) (C : Sco) (X : Cx) (E : XK) (e : Expr), Cok G cl k X E C → chkT C t e = true → PG X e (DG G X (fun m w e => asgT m t w e) t.sl) ∧ noStar e = true
  | .nm i, C, X, E, e, K, h => by
    simp only [chkT] at h
    split at h
    · simp only [Bool.and_eq_true] at h
      exact ⟨g_nm K h.1 h.2, rfl⟩
    · cases h
  | .tp l, C, X, E, e, K, h => by
    simp only [chkT] at h
    split at h
    · obtain ⟨h1, h2, h3⟩ := TL_ok l C X E _ K h
      exact ⟨g_tup K h2 h1 h3, rfl⟩
    · cases h
theorem TL_ok : ∀ (l : CTL) (C : Sco) (X : Cx) (E : XK) (es : List Expr), Cok G cl k X E C → chkTL C l es = true → PGs X es (DGs G X (fun m ws e => asgL m l ws e) l.sl) ∧ (∀ e ∈ es, noStar e = true) ∧ ∀ m ws e e', asgL m l ws e = some e' → ws.length = es.length
  | .nil, C, X, E, es, K, h => by
    simp only [chkTL] at h
    cases es with
    | nil =>
      refine ⟨g_nil, fun e he => absurd he (by simp), fun m ws e e' q => ?_⟩
      cases ws with
      | nil => rfl
      | cons _ _ => simp only [asgL] at q; cases q
    | cons _ _ => cases h
  | .cons t l, C, X, E, es, K, h => by
    simp only [chkTL] at h
    cases es with
    | nil => cases h
    | cons e es =>
      simp only [Bool.and_eq_true] at h
      obtain ⟨h1, h2⟩ := T_ok t C X E e K h.1
      obtain ⟨h3, h4, h5⟩ := TL_ok l C X E es K h.2
      refine ⟨g_cons h2 h1 h3, fun x hx => ?_, fun m ws e e' q => ?_⟩
      · rcases List.mem_cons.mp hx with rfl | hx
        · exact h2
        · exact h4 x hx
      · cases ws with
        | nil => simp only [asgL] at q; cases q
        | cons w ws =>
          simp only [asgL] at q
          split at q
          · simp [h5 _ _ _ _ q]
          · cases q
end
/-! ### expressions -/
theorem isN_eq {c : CE} (h : c.isN = true) : c = .non := by cases c <;> first | rfl | cases h
theorem I_ns : ∀ (it : CI) (C : Sco) (e tg : Expr), chkI G C it e tg = true → noSet e = true := fun it C e tg h => by
  cases it with
  | ex a => simp only [chkI, Bool.and_eq_true] at h; exact h.1
  | dk a => simp only [chkI, Bool.and_eq_true] at h; exact h.1
  | rng l => simp only [chkI] at h; split at h; rfl; cases h
  | enm a => simp only [chkI] at h; split at h; rfl; cases h
  | zip l => simp only [chkI] at h; split at h; rfl; cases h
mutual
theorem E_ok : ∀ (c : CE) (C : Sco) (X : Cx) (E : XK) (e : Expr), Cok G cl k X E C → chkE G C c e = true → SE G X E e (ev G.T cl c)
  | .var i, C, X, E, e, K, h => by
    rw [show ev G.T cl (.var i) = ev G.T cl (.var i) from rfl]
    simp only [chkE] at h
    split at h
    · simp only [Bool.and_eq_true, decide_eq_true_eq] at h
      exact SE.of (s_var K h.1.1 h.1.2 h.2) (fun _ => rfl) (fun _ _ _ q => by cases q)
    · cases h
  | .non, C, X, E, e, K, h => by
    rw [ev_non]
    simp only [chkE] at h
    split at h
    ·
      exact SE.of (s_con pe_non (fun _ _ => .non)) (fun _ => rfl) (fun _ _ _ q => by cases q)
    · cases h
  | .bl b, C, X, E, e, K, h => by
    rw [ev_bl]
    simp only [chkE] at h
    split at h
    ·
      have q := eq_of_beq h
      subst q
      exact SE.of (s_con pe_bl (fun _ _ => .bl _)) (fun _ => rfl) (fun _ _ _ q => by cases q)
    · cases h
  | .int i, C, X, E, e, K, h => by
    rw [ev_int]
    simp only [chkE] at h
    split at h
    ·
      have q := of_decide_eq_true h
      subst q
      exact SE.of (s_con pe_int (fun _ _ => .int _)) (fun _ => rfl) (fun _ _ _ q => by cases q)
    · cases h
  | .str x, C, X, E, e, K, h => by
    rw [ev_str]
    simp only [chkE] at h
    split at h
    ·
      have q := of_decide_eq_true h
      subst q
      exact SE.of (s_con pe_str (fun _ _ => .str _)) (fun _ => rfl) (fun _ _ _ q => by cases q)
    · cases h
  | .glo g, C, X, E, e, K, h => by
    rw [show ev G.T cl (.glo g) = ev G.T cl (.glo g) from rfl]
    simp only [chkE] at h
    split at h
    · simp only [Bool.and_eq_true, decide_eq_true_eq] at h
      exact SE.of (s_glo K h.1.1 h.1.2 h.2) (fun _ => rfl) (fun _ _ _ q => by cases q)
    · cases h
  | .bin o a b, C, X, E, e, K, h => by
    rw [ev_bin]
    simp only [chkE] at h
    split at h
    · simp only [Bool.and_eq_true, decide_eq_true_eq] at h
      obtain ⟨⟨rfl, h1⟩, h2⟩ := h
      exact SE.of (s_bin o (E_ok a C X E _ K h1).pe (E_ok b C X E _ K h2).pe) (fun _ => rfl) (fun _ _ _ q => by cases q)
    · cases h
  | .neg a, C, X, E, e, K, h => by
    rw [ev_neg]
    simp only [chkE] at h
    split at h
    ·
      exact SE.of (s_neg (E_ok a C X E _ K h).pe) (fun _ => rfl) (fun _ _ _ q => by cases q)
    · cases h
  | .not a, C, X, E, e, K, h => by
    rw [ev_not]
    simp only [chkE] at h
    split at h
    ·
      have A := E_ok a C X E _ K h
      exact SE.of2 (s_not A.pe) (t_not A.pt) (fun _ _ _ q => by cases q)
    · cases h
  | .cmp o a b, C, X, E, e, K, h => by
    rw [ev_cmp]
    simp only [chkE] at h
    split at h
    · simp only [Bool.and_eq_true, decide_eq_true_eq] at h
      obtain ⟨⟨⟨rfl, h0⟩, h1⟩, h2⟩ := h
      have A := E_ok a C X E _ K h1
      have B := E_ok b C X E _ K h2
      exact SE.of2 (s_cmp K o A.pe B.pe h0) (t_cmp K o A.pe B.pe h0) (fun _ _ _ q => by cases q)
    · cases h
  | .chain o p a b c, C, X, E, e, K, h => by
    rw [ev_chain]
    simp only [chkE] at h
    split at h
    · simp only [Bool.and_eq_true, decide_eq_true_eq] at h
      obtain ⟨⟨⟨⟨⟨rfl, rfl⟩, h0⟩, h1⟩, h2⟩, h3⟩ := h
      have A := E_ok a C X E _ K h1
      have B := E_ok b C X E _ K h2
      have D := E_ok c C X E _ K h3
      exact SE.of2 (s_chain K o p A.pe B.pe D.pe h0) (t_chain K o p A.pe B.pe D.pe h0) (fun _ _ _ q => by cases q)
    · cases h
  | .and a b, C, X, E, e, K, h => by
    rw [ev_and]
    simp only [chkE] at h
    split at h
    · rename_i x y r pos
      simp only [Bool.and_eq_true] at h
      obtain ⟨h1, h2⟩ := h
      have A := E_ok a C X E _ K h1
      have B : PE X (.BoolOp .And (y :: r) pos) (DW G X E (ev G.T cl b)) ∧ PW X (.BoolOp .And (y :: r) pos) (DT G X E (ev G.T cl b)) := by
        split at h2
        · have B := E_ok b C X E _ K h2
          exact ⟨pe_one B.pe, pw_and1 B.pt⟩
        · have B := E_ok b C X E _ K h2
          exact ⟨B.pe, B.pw _ _ _ rfl⟩
      exact ⟨s_and A.pe B.1, (w_and A.pt B.2).pt, fun _ _ _ _ => w_and A.pt B.2, rfl⟩
    · cases h
  | .or a b, C, X, E, e, K, h => by
    rw [ev_or]
    simp only [chkE] at h
    split at h
    · rename_i x y r pos
      simp only [Bool.and_eq_true] at h
      obtain ⟨h1, h2⟩ := h
      have A := E_ok a C X E _ K h1
      have B : PE X (.BoolOp .Or (y :: r) pos) (DW G X E (ev G.T cl b)) ∧ PW X (.BoolOp .Or (y :: r) pos) (DT G X E (ev G.T cl b)) := by
        split at h2
        · have B := E_ok b C X E _ K h2
          exact ⟨pe_one B.pe, pw_or1 B.pt⟩
        · have B := E_ok b C X E _ K h2
          exact ⟨B.pe, B.pw _ _ _ rfl⟩
      exact ⟨s_or A.pe B.1, (w_or A.pt B.2).pt, fun _ _ _ _ => w_or A.pt B.2, rfl⟩
    · cases h
  | .ite c a b, C, X, E, e, K, h => by
    rw [ev_ite]
    simp only [chkE] at h
    split at h
    · simp only [Bool.and_eq_true, decide_eq_true_eq] at h
      obtain ⟨⟨h1, h2⟩, h3⟩ := h
      have D := E_ok c C X E _ K h1
      have A := E_ok a C X E _ K h2
      have B := E_ok b C X E _ K h3
      exact SE.of2 (s_ite D.pt A.pe B.pe) (t_ite D.pt A.pt B.pt) (fun _ _ _ q => by cases q)
    · cases h
  | .tup l, C, X, E, e, K, h => by
    rw [ev_tup]
    simp only [chkE] at h
    split at h
    · simp only [Bool.and_eq_true, decide_eq_true_eq] at h
      have L := L_ok l C X E _ K h.1
      exact SE.of (s_tup L.pa L.len h.2) (fun _ => rfl) (fun _ _ _ q => by cases q)
    · cases h
  | .lst l, C, X, E, e, K, h => by
    rw [ev_lst]
    simp only [chkE] at h
    split at h
    · simp only [Bool.and_eq_true, decide_eq_true_eq] at h
      have L := L_ok l C X E _ K h.1
      exact SE.of (s_lst L.pa L.len h.2) (fun _ => rfl) (fun _ _ _ q => by cases q)
    · cases h
  | .dct l, C, X, E, e, K, h => by
    rw [ev_dct]
    simp only [chkE] at h
    split at h
    · rename_i ks vs pos
      simp only [Bool.and_eq_true, decide_eq_true_eq] at h
      obtain ⟨h1, h2⟩ := h
      obtain ⟨p1, p2, p3, p4⟩ := P_ok l C X E ks vs pos K h2
      cases ks with
      | nil =>
        cases l with
        | nil =>
          cases vs with
          | nil => exact SE.of s_dct0 (fun _ => rfl) (fun _ _ _ q => by cases q)
          | cons _ _ => cases p4
        | cons a l => cases l <;> simp [chkP] at h2
      | cons k ks => exact SE.of (s_dct p2 p1 p3 p4 (by simp) h1) (fun _ => rfl) (fun _ _ _ q => by cases q)
    · cases h
  | .idx a b, C, X, E, e, K, h => by
    rw [ev_idx]
    simp only [chkE] at h
    split at h
    · simp only [Bool.and_eq_true, decide_eq_true_eq] at h
      obtain ⟨⟨h0, h1⟩, h2⟩ := h
      exact SE.of (s_idx K (E_ok a C X E _ K h1).pe (E_ok b C X E _ K h2).pe h0) (fun _ => rfl) (fun _ _ _ q => by cases q)
    · cases h
  | .slc a lo hi, C, X, E, e, K, h => by
    rw [ev_slc]
    simp only [chkE] at h
    split at h
    · rename_i x p q p2 p3
      simp only [Bool.and_eq_true] at h
      obtain ⟨⟨h1, h2⟩, h3⟩ := h
      have A := E_ok a C X E _ K h1
      have part : ∀ (c : CE) (o : Option Expr), (∀ x, chkE G C c x = true → SE G X E x (ev G.T cl c)) → (match o with
        | none => c.isN
        | some x => !c.isN && chkE G C c x) = true → PO X o (DO G X E fun e m => prt c.isN (ev G.T cl c e m)) := by
        intro c o ih hc
        cases o with
        | none =>
          have hc' : c.isN = true := hc
          have e1 := isN_eq hc'
          subst e1
          rw [ev_non]
          exact po_n
        | some x =>
          have hc' : (!c.isN && chkE G C c x) = true := hc
          rw [Bool.and_eq_true] at hc'
          have e1 : c.isN = false := by simpa using hc'.1
          rw [e1]
          exact po_s (ih x hc'.2).pe
      exact SE.of (s_slc A.pe (part lo p (fun x hx => E_ok lo C X E x K hx) h2) (part hi q (fun x hx => E_ok hi C X E x K hx) h3)) (fun _ => rfl) (fun _ _ _ q => by cases q)
    · cases h
  | .fld a f, C, X, E, e, K, h => by
    rw [ev_fld]
    simp only [chkE] at h
    split at h
    · simp only [Bool.and_eq_true, decide_eq_true_eq] at h
      obtain ⟨⟨h0, h1⟩, h2⟩ := h
      exact SE.of (s_fld K h0 (E_ok a C X E _ K h2).pe h1) (fun _ => rfl) (fun _ _ _ q => by cases q)
    · cases h
  | .call f l, C, X, E, e, K, h => by
    rw [ev_call]
    simp only [chkE] at h
    split at h
    · rename_i x p es pos
      split at h
      · rename_i F hF
        simp only [Bool.and_eq_true, decide_eq_true_eq] at h
        obtain ⟨⟨⟨⟨⟨h1, h2⟩, h3⟩, h4⟩, h5⟩, h6⟩ := h
        have L := L_ok l C X E _ K h5
        cases es with
        | nil =>
          cases l with
          | nil =>
            have e1 : (fun (e : Env) (m : Mem) => (evL G.T cl CL.nil e m).bind fun ws m1 => cl f ws m1) = fun e m => cl f [] m := by
              funext e m
              rw [evL_nil] <;> rfl
            rw [e1]
            exact SE.of (s_call0 K hF h1 h2 h3 h4.symm h6) (fun _ => rfl) (fun _ _ _ q => by cases q)
          | cons _ _ => simp only [chkL] at h5; cases h5
        | cons a es =>
          have hn : Len (evL G.T cl l) F.ps.length := by rw [← h4]; exact L.len
          exact SE.of (s_call K hF h1 h2 h3 L.pa hn L.ns h6) (fun _ => rfl) (fun _ _ _ q => by cases q)
      · cases h
    · cases h
  | .meth n r l, C, X, E, e, K, h => by
    rw [ev_meth]
    simp only [chkE] at h
    split at h
    · rename_i o y ap es cp
      simp only [Bool.and_eq_true, decide_eq_true_eq] at h
      obtain ⟨⟨⟨⟨⟨⟨h1, h2⟩, h3⟩, h4⟩, h5⟩, h6⟩, h7⟩ := h
      have A := E_ok r C X E _ K h6
      have L := L_ok l C X E _ K h7
      cases es with
      | nil =>
        cases l with
        | nil =>
          have q := s_meth0 K h1 A.pe h2 h3 (arM_of h5)
          unfold methF at q
          rw [← evL_nil (T := G.T) (cl := cl)] at q
          exact SE.of q (fun _ => rfl) (fun _ _ _ q => by cases q)
        | cons _ _ => simp only [chkL] at h7; cases h7
      | cons a es => exact SE.of (s_meth K h1 A.pe h2 h3 L.pa L.len (arM_of h5) L.ns h4) (fun _ => rfl) (fun _ _ _ q => by cases q)
    · cases h
  | .make c l, C, X, E, e, K, h => by
    rw [ev_make]
    simp only [chkE] at h
    split at h
    · rename_i x p es pos
      simp only [Bool.and_eq_true, decide_eq_true_eq] at h
      obtain ⟨⟨⟨⟨h1, h2⟩, h3⟩, h4⟩, h5⟩ := h
      have L := L_ok l C X E _ K h5
      cases es with
      | nil =>
        cases l with
        | nil =>
          have q := s_make0 (pos := pos) (p := p) K h1 h2 h3 (arC_of h4)
          unfold makeF at q
          rw [← evL_nil (T := G.T) (cl := cl)] at q
          exact SE.of q (fun _ => rfl) (fun _ _ _ q => by cases q)
        | cons _ _ => simp only [chkL] at h5; cases h5
      | cons a es => exact SE.of (s_make K h1 h2 h3 L.pa L.len (arC_of h4) L.ns) (fun _ => rfl) (fun _ _ _ q => by cases q)
    · cases h
  | .callK f l kl pm, C, X, E, e, K, h => by
    rw [ev_callK]
    simp only [chkE] at h
    split at h
    · rename_i x p es kws pos
      split at h
      · rename_i F hF
        simp only [Bool.and_eq_true, decide_eq_true_eq] at h
        obtain ⟨⟨⟨⟨⟨h1, h2⟩, h3⟩, h4⟩, h5⟩, h6⟩ := h
        have L := L_ok l C X E _ K h4
        obtain ⟨k1, k2, k3⟩ := KW_ok kl C X E _ K h5
        cases es with
        | nil =>
          cases l with
          | nil =>
            have q := s_callK0 (pos := pos) (p := p) K hF h1 h2 h3 k1 k2 k3 (hasK_mem h6)
            refine SE.of ?_ (fun _ => rfl) (fun _ _ _ q => by cases q)
            rw [evL_nil]
            exact q
          | cons _ _ => simp only [chkL] at h4; cases h4
        | cons a es =>
          have q := s_callK (pos := pos) (p := p) K hF h1 h2 h3 L.pa L.len L.ns k1 k2 k3 (hasK_mem h6)
          exact SE.of q (fun _ => rfl) (fun _ _ _ q => by cases q)
      · cases h
    · cases h
  | .methK n r l kl pm, C, X, E, e, K, h => by
    rw [ev_methK]
    simp only [chkE] at h
    split at h
    · rename_i o y ap kw kws cp
      simp only [Bool.and_eq_true, decide_eq_true_eq] at h
      obtain ⟨⟨⟨⟨⟨⟨⟨h1, h2⟩, h3⟩, h4⟩, h5⟩, h6⟩, h7⟩, h8⟩ := h
      have A := E_ok r C X E _ K h6
      obtain ⟨k1, k2, k3⟩ := KW_ok kl C X E _ K h8
      cases l with
      | nil =>
        have q := s_methK0 (pm := pm) K h1 A.pe h2 h3 k1 k2 k3 (by rw [List.length_cons]; omega) (hasM_of h5)
        unfold methKF at q
        rw [← evL_nil (T := G.T) (cl := cl)] at q
        exact SE.of q (fun _ => rfl) (fun _ _ _ q => by cases q)
      | cons _ _ => simp only [chkL] at h7; cases h7
    · cases h
  | .makeK c l kl pm, C, X, E, e, K, h => by
    rw [ev_makeK]
    simp only [chkE] at h
    split at h
    · rename_i x p es kws pos
      simp only [Bool.and_eq_true, decide_eq_true_eq] at h
      obtain ⟨⟨⟨⟨⟨h1, h2⟩, h3⟩, h4⟩, h5⟩, h6⟩ := h
      have L := L_ok l C X E _ K h5
      obtain ⟨k1, k2, k3⟩ := KW_ok kl C X E _ K h6
      cases es with
      | nil =>
        cases l with
        | nil =>
          have q := s_makeK0 (pos := pos) (p := p) K h1 h2 h3 k1 k2 k3 (hasC_of h4)
          unfold makeKF at q
          rw [← evL_nil (T := G.T) (cl := cl)] at q
          exact SE.of q (fun _ => rfl) (fun _ _ _ q => by cases q)
        | cons _ _ => simp only [chkL] at h5; cases h5
      | cons a es =>
        have q := s_makeK (pos := pos) (p := p) K h1 h2 h3 L.pa L.len L.ns k1 k2 k3 (hasC_of h4)
        unfold makeKF at q
        exact SE.of q (fun _ => rfl) (fun _ _ _ q => by cases q)
    · cases h
  | .blt b l, C, X, E, e, K, h => by
    rw [ev_blt]
    simp only [chkE] at h
    split at h
    · rename_i x p a es pos
      simp only [Bool.and_eq_true, decide_eq_true_eq] at h
      obtain ⟨⟨rfl, h2⟩, h3⟩ := h
      have L := L_ok l C X E _ K h3
      exact SE.of (s_blt K b h2 L.pa L.ns) (fun _ => rfl) (fun _ _ _ q => by cases q)
    · cases h
  | .bm n r l, C, X, E, e, K, h => by
    rw [ev_bm]
    simp only [chkE] at h
    split at h
    · rename_i o y ap es cp
      simp only [Bool.and_eq_true, decide_eq_true_eq] at h
      obtain ⟨⟨⟨⟨⟨rfl, h2⟩, h3⟩, h4⟩, h6⟩, h7⟩ := h
      have A := E_ok r C X E _ K h6
      have L := L_ok l C X E _ K h7
      cases es with
      | nil =>
        cases l with
        | nil =>
          have q := s_bm0 n A.pe h2 h3
          unfold bmF at q
          rw [← evL_nil (T := G.T) (cl := cl)] at q
          exact SE.of q (fun _ => rfl) (fun _ _ _ q => by cases q)
        | cons _ _ => simp only [chkL] at h7; cases h7
      | cons a es => exact SE.of (s_bm n A.pe h2 h3 L.pa L.ns h4) (fun _ => rfl) (fun _ _ _ q => by cases q)
    · cases h
  | .isi a ks, C, X, E, e, K, h => by
    rw [ev_isi]
    simp only [chkE] at h
    split at h
    · rename_i x p l y p2 pos
      split at h
      · rename_i kd
        simp only [Bool.and_eq_true, decide_eq_true_eq] at h
        obtain ⟨⟨⟨⟨⟨rfl, h2⟩, h3⟩, h4⟩, h5⟩, h6⟩ := h
        have A := E_ok a C X E _ K h6
        exact SE.of (s_isi K h2 h3 h4 h5 A.pe A.ns) (fun _ => rfl) (fun _ _ _ q => by cases q)
      · cases h
    · cases h
  | .lk d a, C, X, E, e, K, h => by
    rw [ev_lk]
    simp only [chkE, Bool.and_eq_true] at h
    have A := E_ok a C X E e K h.2
    have P := PE_imp (pe_lock A.pe) fun σ H Q q => lock_rdE (fd := ev G.T cl d) q
    have h1 := h.1
    split at h1
    · exact SE.of P (fun _ => rfl) (fun _ _ _ q => by cases q)
    · exact SE.of P (fun _ => rfl) (fun _ _ _ q => by cases q)
    · cases h1
  | .isi2 a k1 k2, C, X, E, e, K, h => by
    rw [ev_isi2]
    simp only [chkE] at h
    split at h
    · rename_i x p l y p2 z p3 kk p4 pos
      simp only [Bool.and_eq_true, decide_eq_true_eq] at h
      obtain ⟨⟨⟨⟨⟨⟨⟨⟨rfl, h2⟩, h3⟩, h4⟩, h5⟩, h6⟩, h7⟩, h8⟩, h9⟩ := h
      have A := E_ok a C X E _ K h9
      exact SE.of (s_isi2 K h2 h3 h4 h5 h6 h7 h8 A.pe A.ns) (fun _ => rfl) (fun _ _ _ q => by cases q)
    · cases h
  | .lset a, C, X, E, e, K, h => by
    rw [ev_lset]
    simp only [chkE] at h
    split at h
    · simp only [Bool.and_eq_true, decide_eq_true_eq] at h
      obtain ⟨⟨⟨⟨rfl, h2⟩, rfl⟩, h4⟩, h5⟩ := h
      have A := E_ok a C X E _ K h5
      exact SE.of (s_lset K h2 h4 A.pe A.ns) (fun _ => rfl) (fun _ _ _ q => by cases q)
    · cases h
  | .sset a, C, X, E, e, K, h => by
    rw [ev_sset]
    simp only [chkE] at h
    split at h
    · simp only [Bool.and_eq_true, decide_eq_true_eq] at h
      obtain ⟨⟨⟨⟨rfl, h2⟩, rfl⟩, h4⟩, h5⟩ := h
      have A := E_ok a C X E _ K h5
      exact SE.of (s_sset K h2 h4 A.pe A.ns) (fun _ => rfl) (fun _ _ _ q => by cases q)
    · cases h
  | .dc own kx vx t it ifs, C, X, E, e, K, h => by
    rw [ev_dc]
    simp only [chkE] at h
    split at h
    · rename_i x y tg iter cs scope pos
      simp only [Bool.and_eq_true, decide_eq_true_eq] at h
      obtain ⟨⟨⟨⟨⟨⟨⟨h1, h2⟩, h3⟩, h4⟩, h5⟩, h5b⟩, h6⟩, h7⟩ := h
      obtain ⟨I1, I2⟩ := I_ok it C X E iter tg K h3
      exact SE.of (s_dc K h1 (sl_of h2) I1 I2 (fun X' _ K' => (T_ok t _ X' _ _ K' h4).1) (fun X' _ K' => (L_ok ifs _ X' _ _ K' h7).ts h6) (fun X' _ K' => (E_ok kx _ X' _ _ K' h5).pe) (fun X' _ K' => (E_ok vx _ X' _ _ K' h5b).pe)) (fun _ => rfl) (fun _ _ _ q => by cases q)
    · cases h
  | .lc own elt t it ifs, C, X, E, e, K, h => by
    rw [ev_lc]
    simp only [chkE] at h
    split at h
    · rename_i x tg iter cs scope pos
      simp only [Bool.and_eq_true, decide_eq_true_eq] at h
      obtain ⟨⟨⟨⟨⟨⟨h1, h2⟩, h3⟩, h4⟩, h5⟩, h6⟩, h7⟩ := h
      obtain ⟨I1, I2⟩ := I_ok it C X E iter tg K h3
      exact SE.of (s_lc K h1 (sl_of h2) I1 I2 (fun X' _ K' => (T_ok t _ X' _ _ K' h4).1) (fun X' _ K' => (L_ok ifs _ X' _ _ K' h7).ts h6) (fun X' _ K' => (E_ok elt _ X' _ _ K' h5).pe)) (fun _ => rfl) (fun _ _ _ q => by cases q)
    · cases h
  | .lc2 own own2 elt t it t2 it2 ifs, C, X, E, e, K, h => by
    rw [ev_lc2]
    simp only [chkE] at h
    split at h
    · rename_i x tg iter tg2 iter2 cs scope pos
      simp only [Bool.and_eq_true, decide_eq_true_eq] at h
      obtain ⟨⟨⟨⟨⟨⟨⟨⟨⟨⟨h1, h2⟩, h2b⟩, h2c⟩, h3⟩, h4⟩, h4b⟩, h4c⟩, h5⟩, h6⟩, h7⟩ := h
      obtain ⟨I1, I2⟩ := I_ok it C X E iter tg K h3
      have I3 : noSet iter2 = true := I_ns it2 _ _ _ h4b
      exact SE.of (s_lc2 K h1 (sl_of h2) (sl_of h2b) (sl_of h2c) I1 I2 I3 (fun X' _ K' => (T_ok t _ X' _ _ K' h4).1) (fun X' _ K' => (I_ok it2 _ X' _ _ _ K' h4b).1) (fun X' _ K' => (T_ok t2 _ X' _ _ K' h4c).1) (fun X' _ K' => (L_ok ifs _ X' _ _ K' h7).ts h6) (fun X' _ K' => (E_ok elt _ X' _ _ K' h5).pe)) (fun _ => rfl) (fun _ _ _ q => by cases q)
    · cases h
theorem L_ok : ∀ (l : CL) (C : Sco) (X : Cx) (E : XK) (es : List Expr), Cok G cl k X E C → chkL G C l es = true → SLs G cl X E es l
  | .nil, C, X, E, es, K, h => by
    simp only [chkL] at h
    cases es with
    | nil =>
      refine ⟨by rw [evL_nil]; exact l_nil, fun e m ws m' q => ?_, fun e he => absurd he (by simp), fun _ => ?_⟩
      · rw [evL_nil] at q
        cases q
        rfl
      · rw [evT_nil]
        refine ⟨fun pins s σ H Q I ⟨B, m, e, rm, re, h⟩ => pts_nil.run pins s σ H Q I ?_⟩
        exact Post.here (RR := RB) h rm rfl
    | cons _ _ => cases h
  | .cons a l, C, X, E, es, K, h => by
    simp only [chkL] at h
    cases es with
    | nil => cases h
    | cons e es =>
      simp only [Bool.and_eq_true] at h
      have A := E_ok a C X E e K h.1
      have L := L_ok l C X E es K h.2
      refine ⟨by rw [evL_cons]; exact l_cons A.pe L.pa A.ns, len_cons L.len, fun x hx => ?_, fun hz => ?_⟩
      · rcases List.mem_cons.mp hx with rfl | hx
        · exact A.ns
        · exact L.ns x hx
      · cases es with
        | cons _ _ => simp at hz
        | nil =>
          cases l with
          | cons _ _ => simp only [chkL] at h; cases h.2
          | nil =>
            have e1 : evT G.T cl (.cons a .nil) = fun e m => (ev G.T cl a e m).bind tru := by
              rw [evT_cons, evT_nil]
              funext e m
              congr 1
              funext w m1
              unfold tru
              cases truth m1 w with
              | none => rfl
              | some b => cases b <;> rfl
            rw [e1]
            exact pts_one A.pt
theorem KW_ok : ∀ (l : CL) (C : Sco) (X : Cx) (E : XK) (ks : List Keyword), Cok G cl k X E C → chkK G C l ks = true → PK X ks (DL G X E (evL G.T cl l)) ∧ Len (evL G.T cl l) ks.length ∧ (ks.all fun k => k.arg.isSome) = true
  | .nil, C, X, E, ks, K, h => by
    simp only [chkK] at h
    cases ks with
    | nil =>
      refine ⟨by rw [evL_nil]; exact k_nil, fun e m ws m' q => ?_, rfl⟩
      rw [evL_nil] at q
      cases q
      rfl
    | cons _ _ => cases h
  | .cons a l, C, X, E, ks, K, h => by
    simp only [chkK] at h
    split at h
    · rename_i x e p r
      simp only [Bool.and_eq_true] at h
      have A := E_ok a C X E e K h.1.2
      obtain ⟨k1, k2, k3⟩ := KW_ok l C X E r K h.2
      exact ⟨by rw [evL_cons]; exact k_cons A.pe k1, len_cons k2, by simpa using k3⟩
    · cases h
theorem P_ok : ∀ (l : CL) (C : Sco) (X : Cx) (E : XK) (ks : List (Option Expr)) (vs : List Expr) (pos : Pos), Cok G cl k X E C → chkP G C l ks vs = true → PPs X pos ks vs (trsOf G X E cl l) ∧ l.even = true ∧ ks.all (·.isSome) = true ∧ ks.length = vs.length
  | .nil, C, X, E, ks, vs, pos, K, h => by
    simp only [chkP, Bool.and_eq_true] at h
    cases ks with
    | cons _ _ => cases h.1
    | nil =>
      cases vs with
      | cons _ _ => cases h.2
      | nil => exact ⟨pps_nil, rfl, rfl, rfl⟩
  | .cons a .nil, C, X, E, ks, vs, pos, K, h => by
    simp only [chkP] at h
    cases h
  | .cons a (.cons b l), C, X, E, ks, vs, pos, K, h => by
    simp only [chkP] at h
    split at h
    · simp only [Bool.and_eq_true] at h
      obtain ⟨⟨h1, h2⟩, h3⟩ := h
      obtain ⟨p1, p2, p3, p4⟩ := P_ok l C X E _ _ pos K h3
      exact ⟨pps_cons (E_ok a C X E _ K h1).pe (E_ok b C X E _ K h2).pe p1, p2, by simpa using p3, by simp [p4]⟩
    · cases h
theorem I_ok : ∀ (it : CI) (C : Sco) (X : Cx) (E : XK) (e tg : Expr), Cok G cl k X E C → chkI G C it e tg = true → PI X tg e (DI G X E (evI G.T cl it)) ∧ noSet e = true
  | .ex a, C, X, E, e, tg, K, h => by
    rw [evI_ex]
    simp only [chkI, Bool.and_eq_true] at h
    exact ⟨i_ex (E_ok a C X E e K h.2).pe, h.1⟩
  | .dk a, C, X, E, e, tg, K, h => by
    rw [evI_dk]
    simp only [chkI, Bool.and_eq_true] at h
    exact ⟨i_dk (E_ok a C X E e K h.2).pe, h.1⟩
  | .rng l, C, X, E, e, tg, K, h => by
    rw [evI_rng]
    simp only [chkI] at h
    split at h
    · rename_i x p es pos
      simp only [Bool.and_eq_true, decide_eq_true_eq] at h
      obtain ⟨⟨⟨rfl, h1⟩, h2⟩, h3⟩ := h
      have L := L_ok l C X E _ K h2
      split at h3
      · rename_i a
        exact ⟨i_rng1 K h1 L.pa L.len (L.ns a (by simp)), rfl⟩
      · rename_i a b
        exact ⟨i_rng2 K h1 L.pa L.len (L.ns a (by simp)) (L.ns b (by simp)), rfl⟩
      · cases h3
    · cases h
  | .enm a, C, X, E, e, tg, K, h => by
    rw [evI_enm]
    simp only [chkI] at h
    split at h
    · rename_i x p l pos _ _ _
      simp only [Bool.and_eq_true, decide_eq_true_eq] at h
      obtain ⟨⟨rfl, h1⟩, h2⟩ := h
      have A := E_ok a C X E _ K h2
      exact ⟨i_enm K h1 A.pe A.ns, rfl⟩
    · cases h
  | .zip l, C, X, E, e, tg, K, h => by
    rw [evI_zip]
    simp only [chkI] at h
    split at h
    · rename_i x p es pos _ _ _
      simp only [Bool.and_eq_true, decide_eq_true_eq] at h
      obtain ⟨⟨⟨rfl, h1⟩, h2⟩, h3⟩ := h
      have L := L_ok l C X E _ K h2
      split at h3
      · rename_i a b
        exact ⟨i_zip K h1 L.pa L.len (L.ns a (by simp)) (L.ns b (by simp)), rfl⟩
      · cases h3
    · cases h
end
end
end Mi
end

section
set_option Elab.async false
set_option linter.all false
set_option maxRecDepth 100000
set_option maxHeartbeats 4000000
/-! MiP: the induction for statements; every def of the text; a law's end. -/
namespace Mi
open PySem PySem.Spec PyProof.Rows L2

section
variable {G : Dat} {cl : Caller} {k : Nat}
/-- name = a comprehension -/
theorem setC_ok {a : CE} {C : Sco} {X : Cx} {E : XK} {e : Expr} {i : Nat} {x : Str} {py pos : Pos} (K : Cok G cl k X E C) (h1 : slotB C i x = true) (h : chkE G C a e = true) (hq : setLcB C x py e = true) (hnl : a.noLk = true) : PS X (.Assign [.Name x py] e pos) (DS G X E (xS G.T cl (.set i a))) := by
  rw [xS_set]
  unfold setLcB at hq
  split at hq
  · rename_i elt gs scope p
    simp only [Bool.and_eq_true, Bool.not_eq_true'] at hq
    obtain ⟨⟨⟨q1, q2⟩, q3⟩, q4⟩ := hq
    have hk := fnK_of K.sc q1
    refine st_setC ?_
    cases a with
    | lc own elt' t it ifs =>
      rw [ev_lc]
      simp only [chkE] at h
      split at h
      · rename_i x' tg iter cs scope' pos' he
        cases he
        simp only [Bool.and_eq_true, decide_eq_true_eq] at h
        obtain ⟨⟨⟨⟨⟨⟨g1, g2⟩, g3⟩, g4⟩, g5⟩, g6⟩, g7⟩ := h
        obtain ⟨I1, I2⟩ := I_ok it C X E iter tg K g3
        exact s_setLc K h1 q2 q3 q4 hk g1 (sl_of g2) I1 I2 (fun X' _ K' => (T_ok t _ X' _ _ K' g4).1) (fun X' _ K' => (L_ok ifs _ X' _ _ K' g7).ts g6) (fun X' _ K' => (E_ok elt' _ X' _ _ K' g5).pe)
      · cases h
    | lc2 own own2 elt' t it t2 it2 ifs =>
      rw [ev_lc2]
      simp only [chkE] at h
      split at h
      · rename_i x' tg iter tg2 iter2 cs scope' pos' he
        cases he
        simp only [Bool.and_eq_true, decide_eq_true_eq] at h
        obtain ⟨⟨⟨⟨⟨⟨⟨⟨⟨⟨g1, g2⟩, g2b⟩, g2c⟩, g3⟩, g4⟩, g4b⟩, g4c⟩, g5⟩, g6⟩, g7⟩ := h
        obtain ⟨I1, I2⟩ := I_ok it C X E iter tg K g3
        have I3 : noSet iter2 = true := I_ns it2 _ _ _ g4b
        exact s_setLc2 K h1 q2 q3 q4 hk g1 (sl_of g2) (sl_of g2b) (sl_of g2c) I1 I2 I3 (fun X' _ K' => (T_ok t _ X' _ _ K' g4).1) (fun X' _ K' => (I_ok it2 _ X' _ _ _ K' g4b).1) (fun X' _ K' => (T_ok t2 _ X' _ _ K' g4c).1) (fun X' _ K' => (L_ok ifs _ X' _ _ K' g7).ts g6) (fun X' _ K' => (E_ok elt' _ X' _ _ K' g5).pe)
      · cases h
    | lk _ _ => cases hnl
    | _ => simp only [chkE] at h; first | cases h | (split at h <;> first | cases h | (rename_i he; cases he))
  · cases hq
mutual
theorem S_ok : ∀ (s : CS) (C : Sco) (X : Cx) (E : XK) (st : Stmt), Cok G cl k X E C → PassesOwn (model X.prog X.w) X.A X.env X.xe → chkS G C s st = true → PS X st (DS G X E (xS G.T cl s))
  | .pass, C, X, E, st, K, hp, h => by
    rw [xS_pass]
    simp only [chkS] at h
    split at h
    · exact st_pass
    · exact st_doc
    · cases h
  | .expr a, C, X, E, st, K, hp, h => by
    rw [xS_expr]
    simp only [chkS] at h
    split at h
    · simp only [Bool.and_eq_true] at h
      exact st_expr (E_ok a C X E _ K h.2).pe h.1
    · cases h
  | .ret a, C, X, E, st, K, hp, h => by
    rw [xS_ret]
    simp only [chkS] at h
    split at h
    · exact st_ret (E_ok a C X E _ K h).pe
    · cases h
  | .retN, C, X, E, st, K, hp, h => by
    rw [xS_retN]
    simp only [chkS] at h
    split at h
    · exact st_retN
    · cases h
  | .set i a, C, X, E, st, K, hp, h => by
    simp only [chkS] at h
    split at h
    · rename_i x py e pos
      simp only [Bool.and_eq_true] at h
      obtain ⟨⟨⟨h1, h2⟩, h3⟩, h4⟩ := h
      rw [Bool.or_eq_true] at h4
      rcases h4 with h4 | h4
      · rw [xS_set]
        exact st_set K h1 h2 (E_ok a C X E _ K h3).pe h4
      · rw [Bool.and_eq_true] at h4
        exact setC_ok K h1 h3 h4.1 h4.2
    · cases h
  | .unp t a, C, X, E, st, K, hp, h => by
    rw [xS_unp]
    simp only [chkS] at h
    split at h
    · rename_i es kk p e pos
      simp only [Bool.and_eq_true] at h
      obtain ⟨⟨⟨h1, h2⟩, h3⟩, h4⟩ := h
      obtain ⟨t1, t2, t3⟩ := TL_ok t C X E es K h1
      refine st_unp (E_ok a C X E _ K h4).pe (g_tup K t2 t1 t3) h2 ?_
      split at h3
      · exact sw_tup K.sc h3
      · rename_i hne
        exact sw_none (by cases e <;> first | rfl | exact absurd rfl (hne _ _ _)) ⟨_, rfl⟩
    · cases h
  | .par i j a b, C, X, E, st, K, hp, h => by
    rw [xS_par]
    simp only [chkS] at h
    split at h
    · simp only [Bool.and_eq_true, decide_eq_true_eq, Bool.not_eq_true'] at h
      obtain ⟨⟨⟨⟨⟨⟨⟨⟨⟨⟨⟨h1, h2⟩, h3⟩, h4⟩, h5⟩, h6⟩, h7⟩, h8⟩, h9⟩, h10⟩, h11⟩, h12⟩ := h
      have A := E_ok a C X E _ K h11
      have B := E_ok b C X E _ K h12
      exact st_par K (fnK_of K.sc h1) h2 h3 h4 h6 h7 h8 h5 h9 h10 A.pe B.pe A.ns B.ns
    · cases h
  | .sub o i a, C, X, E, st, K, hp, h => by
    rw [xS_sub]
    simp only [chkS] at h
    split at h
    · simp only [Bool.and_eq_true] at h
      obtain ⟨⟨⟨h1, h3⟩, h4⟩, h5⟩ := h
      exact st_sub K (E_ok a C X E _ K h3).pe (E_ok o C X E _ K h4).pe (E_ok i C X E _ K h5).pe h1
    · cases h
  | .fld o f a, C, X, E, st, K, hp, h => by
    rw [xS_fld]
    simp only [chkS] at h
    split at h
    · simp only [Bool.and_eq_true, decide_eq_true_eq] at h
      obtain ⟨⟨h1, h3⟩, h4⟩ := h
      exact st_fld K h1 (E_ok a C X E _ K h3).pe (E_ok o C X E _ K h4).pe
    · cases h
  | .aug i a, C, X, E, st, K, hp, h => by
    rw [xS_aug]
    simp only [chkS] at h
    split at h
    · simp only [Bool.and_eq_true] at h
      obtain ⟨⟨h1, h2⟩, h3⟩ := h
      exact st_aug K h1 h2 (E_ok a C X E _ K h3).pe
    · cases h
  | .iff c a b, C, X, E, st, K, hp, h => by
    rw [xS_iff]
    simp only [chkS] at h
    split at h
    · simp only [Bool.and_eq_true] at h
      obtain ⟨⟨h1, h2⟩, h3⟩ := h
      exact st_if (E_ok c C X E _ K h1).pt (B_ok a C X E _ K hp h2) (B_ok b C X E _ K hp h3)
    · cases h
  | .whl c b, C, X, E, st, K, hp, h => by
    rw [xS_whl]
    simp only [chkS] at h
    split at h
    · simp only [Bool.and_eq_true] at h
      exact st_while hp (E_ok c C X E _ K h.1).pt (B_ok b C X E _ K hp h.2)
    · cases h
  | .for t it b, C, X, E, st, K, hp, h => by
    rw [xS_for_]
    simp only [chkS] at h
    split at h
    · simp only [Bool.and_eq_true] at h
      obtain ⟨⟨⟨h1, h2⟩, h3⟩, h4⟩ := h
      exact st_for K hp (I_ok it C X E _ _ K h3).1 (T_ok t C X E _ K h1).1 (B_ok b C X E _ K hp h4) h2
    · cases h
  | .nvr, C, X, E, st, K, hp, h => by
    rw [xS_nvr]
    exact st_nvr
  | .lk d s, C, X, E, st, K, hp, h => by
    rw [xS_lk]
    simp only [chkS] at h
    exact PS_imp (ps_lock (S_ok s C X E st K hp h)) fun D σ H q => lock_rdS (fd := ev G.T cl d) q
  | .rse _ _, C, X, E, st, K, hp, h => by
    simp only [chkS] at h
    cases h
theorem B_ok : ∀ (b : CB) (C : Sco) (X : Cx) (E : XK) (ss : List Stmt), Cok G cl k X E C → PassesOwn (model X.prog X.w) X.A X.env X.xe → chkB G C b ss = true → PSs X ss (DS G X E (xB G.T cl b))
  | .nil, C, X, E, ss, K, hp, h => by
    rw [xB_nil]
    simp only [chkB] at h
    cases ss with
    | nil => exact b_nil
    | cons _ _ => cases h
  | .cons s b, C, X, E, ss, K, hp, h => by
    rw [xB_cons]
    simp only [chkB] at h
    cases ss with
    | nil => cases h
    | cons st ss =>
      simp only [Bool.and_eq_true] at h
      exact b_cons (S_ok s C X E st K hp h.1) (B_ok b C X E ss K hp h.2)
end
end

/-! ### the defs -/
/-- a def's body is looked over -/
def chkF (G : Dat) (F : FnD) (N : Fn) : Bool := C8.scC F.S F.ps F.d.scope && decide (F.S.length = N.ns) && decide (F.ps.length = N.np) && chkB G ⟨F.S, F.d.scope, fun _ => true⟩ N.body F.d.body && F.d.dfl.isEmpty
theorem start_env {N : List Str} {K : PySem.W.Frag} {B : List Addr} {H : Hp} {vs : List V} {ws : List W} {np ns : Nat} (hn : N.length = ns) (hw : ws.length = np) (r : Reps K B H ws vs) : RelE K B H (ws.map some ++ List.replicate (ns - np) none) (L2.start N vs) := by
  have hl := r.length
  refine ⟨by unfold L2.start; simp [hl, hn, hw], fun i w h => ?_⟩
  unfold L2.start
  by_cases hi : i < ws.length
  · rw [List.getElem?_append_left (by simpa using hi), List.getElem?_map] at h
    cases q : ws[i]? with
    | none => rw [q] at h; cases h
    | some u =>
      rw [q] at h
      cases h
      obtain ⟨v, h1, h2⟩ := r.get q
      refine ⟨v, ?_, h2⟩
      rw [List.getElem?_append_left (by simpa [hl] using hi), List.getElem?_map, h1] <;> rfl
  · rw [List.getElem?_append_right (by simpa using hi), List.getElem?_replicate] at h
    split at h <;> cases h
/-- what the head says of a def -/
structure FnIn (G : Dat) (K : PySem.W.Frag) (f : Nat) (F : FnD) (fd : FuncData) : Prop where
  df : FunD K F.d.name F.d.qual F.d.params F.d.body F.d.scope [] (F.d.kws K) (He.fAd K F.d.at_) fd
  bi : F.pl = true → L2.Binds K fd F.ps []
  kb : ∀ (n : Nat) (ks : List Str) (pm : List Pk), (⟨f, n, ks, pm⟩ : Shp) ∈ G.KS → KbV K fd F.ps n ks pm
theorem fns_ok {P : Program} {w : World} {K : PySem.W.Frag} {mg : Str → Option Value} {base : Heap} {G : Dat} (T : TabOk G K mg) (hin : ∀ (f : Nat) (F : FnD), G.df f = some F → ∃ fd, FnIn G K f F fd) (hc : ∀ (f : Nat) (F : FnD), G.df f = some F → ∃ N : Fn, G.T.fn f = some N ∧ chkF G F N = true) :
    ∀ (n : Nat) (f : Nat) (F : FnD) (fd : FuncData), G.df f = some F → FnIn G K f F fd → FnOk P w K mg base (L2.CX P w) (2 * n) (He.fAd K F.d.at_) fd F.ps (spF G.N K (callN G.T n) f F.ps.length)
  | 0, f, F, fd, hF, I => by
    refine ⟨fun vs H Q E h => ?_, fun A outer s H args us vs Q E hr he hb hv h => ?_⟩
    · obtain ⟨B, m, ws, rm, rs, hw, h⟩ := h
      exact rs.length.trans hw
    · obtain ⟨B, m, ws, rm, rs, hw, h⟩ := h
      rw [callN] at h
      exact h.elim
  | n + 1, f, F, fd, hF, I => by
    obtain ⟨N, hN, hk⟩ := hc f F hF
    unfold chkF at hk
    simp only [Bool.and_eq_true, decide_eq_true_eq] at hk
    obtain ⟨⟨⟨⟨h1, h2⟩, h3⟩, h4⟩, h5⟩ := hk
    have S : FnScope F.S F.ps F.d.scope := C8.fnScope_by h1
    have ih := fns_ok (P := P) (w := w) (base := base) T hin hc n
    show FnOk P w K mg base (L2.CX P w) ((2 * n + 1) + 1) _ fd F.ps _
    refine I.df.ok S (fun vs H Q E h => ?_) fun cdv A outer s H vs Q E hr h => ?_
    · obtain ⟨B, m, ws, rm, rs, hw, h⟩ := h
      exact rs.length.trans hw
    · obtain ⟨B, m, ws, rm, rs, hw, h⟩ := h
      have K' : Cok G (callN G.T n) (2 * n) (cxOf (L2.CX P w) P w K mg base F.S F.d.qual F.d.scope (He.fAd K F.d.at_) cdv A outer s H E) E ⟨F.S, F.d.scope, fun _ => true⟩ := by
        refine ⟨T, fun f' F' hF' => ?_, rfl, rfl, S.nd, rfl, rfl, hr, L2.takes_of rfl rfl rfl rfl⟩
        obtain ⟨fd', I'⟩ := hin f' F' hF'
        exact ⟨fd', I'.df.kp, I'.bi, I'.kb, ih f' F' fd' hF' I'⟩
      refine ⟨_, B_ok N.body _ _ E _ K' (L2.passes_of rfl) h4, B, m, ws.map some ++ List.replicate (N.ns - N.np) none, rm, start_env h2 (by rw [hw, h3]) rs, ?_⟩
      rw [callN] at h
      rw [hN] at h
      dsimp only at h
      rw [if_pos (by rw [hw, h3])] at h
      cases q : xB G.T (callN G.T n) N.body (ws.map some ++ List.replicate (N.ns - N.np) none) m with
      | next e m' =>
        rw [q] at h
        exact fun B' H' σ g rm' re' => h B' H' .non g rm' .non
      | ret w m' =>
        rw [q] at h
        exact fun B' H' v g rm' rv => h B' H' v g rm' rv
      | rse c x e m' =>
        rw [q] at h
        exact h
      | bad =>
        rw [q] at h
        exact h
/-- a law's promise -/
theorem law_sp {K : PySem.W.Frag} {G : Dat} {n f : Nat} {H : Hp} {a : Addr} {ns : List Int} (hO : L2.Only H) (hS : SqL K H a (ns.map V.int)) (h : ∃ m, callN G.T n f [.frz ns] [] = .ok (.bl true) m) :
    spF G.N K (callN G.T n) f 1 [.ref a] H (fun v _ => v = .bl true) fun _ _ _ => False := by
  obtain ⟨m, hm⟩ := h
  have hf : FzL K H a (ns.map V.int) := by
    rcases hS with (h | ⟨o, h⟩) | h
    · rcases hO a with q | ⟨o, xs, q⟩
      · rw [q] at h; cases h
      · rw [q] at h; cases h
    · exact .inl ⟨o, h⟩
    · exact .inr h
  refine ⟨[], [], [.frz ns], ⟨rfl, List.nodup_nil, fun k o h => by simp at h⟩, .cons (.frz hf) .nil, rfl, ?_⟩
  rw [hm]
  intro B' H' c g rm r
  cases r
  rfl
theorem cx_no {P : Program} {w : World} {l : List PySem.Env} {H : Hp} {s : Shared} {e : Value} {s' : Shared} (h : L2.CX P w l H s (fun _ _ _ => False) e s') : False := by
  obtain ⟨_, _, _, _, _, _, _, _, _, _, _, _, z⟩ := h
  exact z
end Mi
end

section
set_option Elab.async false
set_option linter.all false
set_option maxRecDepth 100000
set_option maxHeartbeats 4000000
/-! MiR: the head: what the look over the written part says; a law's end. -/
namespace Mi
open PySem PySem.Spec PyProof.Rows L2

/-! ### constants -/
def all2 {A C : Type} (f : A → C → Bool) : List A → List C → Bool
  | [], [] => true
  | a :: r, c :: s => f a c && all2 f r s
  | _, _ => false
def gloV (K : PySem.W.Frag) : Nat → W → Value → Bool
  | _, .non, .none => true
  | _, .bl b, .bool c => b == c
  | _, .int i, .int j _ => decide (i = j)
  | _, .str x, .str y _ => decide (y = sx x)
  | n + 1, .tup ws, .ref a => (match K.lookup a with
    | some ⟨.type c, _, .seq its _, _⟩ => decide (c = "tuple") && (decide (its.size ≤ sizeLine) && all2 (gloV K n) ws its.toList)
    | _ => false)
  | _, _, _ => false
theorem all2_ok {K : PySem.W.Frag} {n : Nat} (ih : ∀ w u, gloV K n w u = true → ∃ v, RelV v u ∧ ∀ B H, Rep K B H w v) : ∀ {ws : List W} {us : List Value}, all2 (gloV K n) ws us = true → ∃ vs, Vals vs us ∧ ∀ B H, Reps K B H ws vs
  | [], [], _ => ⟨[], .nil, fun _ _ => .nil⟩
  | [], _ :: _, h => by cases h
  | _ :: _, [], h => by cases h
  | w :: ws, u :: us, h => by
    obtain ⟨h1, h2⟩ := Bool.and_eq_true_iff.mp (show (gloV K n w u && all2 (gloV K n) ws us) = true from h)
    obtain ⟨v, r1, r2⟩ := ih w u h1
    obtain ⟨vs, r3, r4⟩ := all2_ok ih h2
    exact ⟨v :: vs, .cons r1 r3, fun B H => .cons (r2 B H) (r4 B H)⟩
theorem gloV_ok {K : PySem.W.Frag} : ∀ (n : Nat) (w : W) (u : Value), gloV K n w u = true → ∃ v, RelV v u ∧ ∀ B H, Rep K B H w v := by
  intro n
  induction n with
  | zero =>
    intro w u h
    cases w <;> cases u <;> first
      | (exact ⟨.non, rfl, fun _ _ => .non⟩)
      | (cases eq_of_beq h; exact ⟨.bl _, rfl, fun _ _ => .bl _⟩)
      | (cases of_decide_eq_true h; exact ⟨.int _, ⟨_, rfl⟩, fun _ _ => .int _⟩)
      | (cases of_decide_eq_true h; exact ⟨.str _, ⟨_, rfl⟩, fun _ _ => .str _⟩)
      | cases h
  | succ n ih =>
    intro w u h
    cases w with
    | tup ws =>
      cases u with
      | ref a =>
        simp only [gloV] at h
        split at h
        · rename_i c dd its k sl q
          obtain ⟨h1, h2⟩ := Bool.and_eq_true_iff.mp h
          obtain ⟨h3, h4⟩ := Bool.and_eq_true_iff.mp h2
          obtain ⟨vs, r1, r2⟩ := all2_ok ih h4
          exact ⟨.ref a, rfl, fun B H => .tup (.inr ⟨_, its, k, q, congrArg Value.type (of_decide_eq_true h1), rfl, of_decide_eq_true h3, r1⟩) (r2 B H)⟩
        · cases h
      | _ => cases h
    | _ =>
      cases u <;> first
        | (exact ⟨.non, rfl, fun _ _ => .non⟩)
        | (cases eq_of_beq h; exact ⟨.bl _, rfl, fun _ _ => .bl _⟩)
        | (cases of_decide_eq_true h; exact ⟨.int _, ⟨_, rfl⟩, fun _ _ => .int _⟩)
        | (cases of_decide_eq_true h; exact ⟨.str _, ⟨_, rfl⟩, fun _ _ => .str _⟩)
        | cases h

/-! ### the look -/
def nsB (K : PySem.W.Frag) (x : Str) (f : Option Value → Bool) : Bool := match PySem.W.nsIn K mainGlobals x with
  | some o => f o
  | none => false
def insB (K : PySem.W.Frag) (C : Addr) : Bool := He.eqO (PySem.W.findIn K (.ref C) "__class__") (some (some (.builtin "object.__class__"))) &&
  (He.eqO (PySem.W.specialIn K (.builtin "object.__class__") "__get__") (some (some (.builtin "getset_descriptor.__get__"))) && (decide (PySem.W.takesIn K (.builtin "object.__class__") = some true) && decide (PySem.W.mroIn K C (.type "object") = some true)))
/-- the kinds that isinstance asks for -/
def kinds (G : Dat) : List Kd := [.str, .int, .bool, .tuple, .list, .dict] ++ G.N.cls.map fun p => .cls p.1
def clsB (G : Dat) (K : PySem.W.Frag) (x : Str) (C : Cl) : Bool := (He.Fa.glo x).ok K && ((He.Fa.cls x).ok K && ((G.N.fld.all fun f => (He.Fa.noat x f).ok K) && ((C.meths.all fun p => match G.N.mth[p.1]?, G.df p.2 with
    | some y, some F => decide (F.d.at_ = (x, some y)) && (He.Fa.meth x y).ok K
    | _, _ => false) && ((match G.df C.init with
    | some F => decide (F.d.at_ = (x, some ("__init__" : Str)))
    | none => false) && ((He.Fa.mkr x).ok K && insB K (He.ga K x))))))
def gloB1 (K : PySem.W.Frag) (x : Str) (w : W) : Bool := nsB K x fun o => match o with
  | some u => gloV K 8 w u
  | none => false
def tabB (G : Dat) (K : PySem.W.Frag) : Bool := (G.D.all fun p => match p.2.d.at_.2 with
    | none => (He.Fa.glo p.2.d.at_.1).ok K
    | some _ => true) && (all2 (fun x C => x.1 == C.1 && clsB G K x.2 C.2) G.N.cls G.T.cls && (all2 (fun x w => x.1 == w.1 && gloB1 K x.2 w.2) G.N.glo G.T.glo && ((bltNames.all fun x => (He.Fa.free x).ok K) && ((tyNs.all fun t => G.N.cls.all fun c => decide (PySem.W.kitOne K (.type t) (kdV G.N K (.cls c.1)) = some false)) &&
    (G.N.cls.all fun c => (kinds G).all fun k => decide (PySem.W.kitOne K (kdV G.N K (.cls c.1)) (kdV G.N K k) = some (decide (k = .cls c.1))))))))
/-- names: no attribute twice, no method's name among the attributes -/
def namB (G : Dat) : Bool := decide G.N.fld.Nodup && (G.N.mth.all fun y => decide (y ∉ G.N.fld))
/-- two lists by number, number by number -/
theorem all2_lk {A C : Type} {f : A → C → Bool} : ∀ {xs : List (Nat × A)} {ys : List (Nat × C)}, all2 (fun p q => p.1 == q.1 && f p.2 q.2) xs ys = true → ∀ (i : Nat), (∀ x, xs.lookup i = some x → ∃ y, ys.lookup i = some y ∧ f x y = true) ∧ ∀ y, ys.lookup i = some y → ∃ x, xs.lookup i = some x ∧ f x y = true
  | [], [], _, i => ⟨(fun x h => by cases h), fun y h => by cases h⟩
  | [], _ :: _, h, _ => by cases h
  | _ :: _, [], h, _ => by cases h
  | (j, a) :: xs, (l, b) :: ys, h, i => by
    obtain ⟨h1, h2⟩ := Bool.and_eq_true_iff.mp (show ((j == l && f a b) && all2 (fun p q => p.1 == q.1 && f p.2 q.2) xs ys) = true from h)
    obtain ⟨h3, h4⟩ := Bool.and_eq_true_iff.mp h1
    have e := eq_of_beq h3
    subst e
    obtain ⟨k1, k2⟩ := all2_lk h2 i
    by_cases z : (i == j) = true
    · simp only [List.lookup_cons, z]
      exact ⟨(fun x q => by cases q; exact ⟨b, rfl, h4⟩), fun y q => by cases q; exact ⟨a, rfl, h4⟩⟩
    · simp only [List.lookup_cons, z]
      exact ⟨k1, k2⟩
theorem meths_at {C : Cl} {p : Nat × Nat → Bool} (h : C.meths.all p = true) {m f : Nat} (e : C.meths.lookup m = some f) : p (m, f) = true := List.all_eq_true.mp h _ (mem_lk e)
section
variable {G : Dat} {K : PySem.W.Frag} {h : Heap} {mg : Str → Option Value}
theorem tab_of (X : K.In h) (Gn : h.Ns mainGlobals mg) (hn : namB G = true) (c : tabB G K = true) : TabOk G K mg := by
  unfold tabB at c
  obtain ⟨c1, c⟩ := Bool.and_eq_true_iff.mp c
  obtain ⟨c2, c⟩ := Bool.and_eq_true_iff.mp c
  obtain ⟨c3, c⟩ := Bool.and_eq_true_iff.mp c
  obtain ⟨c4, c⟩ := Bool.and_eq_true_iff.mp c
  obtain ⟨c5, c6⟩ := Bool.and_eq_true_iff.mp c
  unfold namB at hn
  simp only [Bool.and_eq_true, decide_eq_true_eq] at hn
  obtain ⟨n1, n2⟩ := hn
  refine ⟨fun f F x hF hat => ?_, fun c x hx => ?_, n1, fun y hy => of_decide_eq_true (List.all_eq_true.mp n2 y hy), fun g w hw => ?_, fun x hx => He.free_ok X Gn (List.all_eq_true.mp c4 x hx), fun t c x ht hc => ?_, fun c k x hc hk => ?_⟩
  · have q := List.all_eq_true.mp c1 (f, F) (mem_lk hF)
    dsimp only at q
    rw [hat] at q
    exact He.glo_ok X Gn q
  · obtain ⟨C, hC, q⟩ := (all2_lk (f := fun x C => clsB G K x C) c2 c).1 x hx
    refine ⟨C, hC, ?_⟩
    unfold clsB at q
    obtain ⟨q1, q⟩ := Bool.and_eq_true_iff.mp q
    obtain ⟨q2, q⟩ := Bool.and_eq_true_iff.mp q
    obtain ⟨q3, q⟩ := Bool.and_eq_true_iff.mp q
    obtain ⟨q4, q⟩ := Bool.and_eq_true_iff.mp q
    obtain ⟨q5, q⟩ := Bool.and_eq_true_iff.mp q
    obtain ⟨q6, q7⟩ := Bool.and_eq_true_iff.mp q
    refine ⟨He.glo_ok X Gn q1, He.cls_ok q2, fun f hf => He.noat_ok (List.all_eq_true.mp q3 f hf), fun m f e => ?_, ?_, He.mkr_ok q6, ?_⟩
    · have z := meths_at q4 e
      dsimp only at z
      split at z
      · rename_i y F e1 e2
        obtain ⟨z1, z2⟩ := Bool.and_eq_true_iff.mp z
        exact ⟨y, F, e1, e2, of_decide_eq_true z1, He.meth_ok z2⟩
      · cases z
    · split at q5
      · rename_i F e
        exact ⟨F, e, of_decide_eq_true q5⟩
      · cases q5
    · unfold insB at q7
      obtain ⟨i1, i⟩ := Bool.and_eq_true_iff.mp q7
      obtain ⟨i2, i⟩ := Bool.and_eq_true_iff.mp i
      obtain ⟨i3, i4⟩ := Bool.and_eq_true_iff.mp i
      exact ⟨He.eqO_ok i1, He.eqO_ok i2, of_decide_eq_true i3, of_decide_eq_true i4⟩
  · obtain ⟨x, hx, q⟩ := (all2_lk (f := fun x w => gloB1 K x w) c3 g).2 w hw
    unfold gloB1 nsB at q
    split at q
    · rename_i o e
      dsimp only at q
      split at q
      · rename_i u
        obtain ⟨v, r1, r2⟩ := gloV_ok 8 w u q
        exact ⟨x, u, v, hx, PySem.W.mg_of X Gn e, r1, r2⟩
      · cases q
    · cases q
  · have q := List.all_eq_true.mp (List.all_eq_true.mp c5 t ht) (c, x) (mem_lk hc)
    exact of_decide_eq_true q
  · have hk' : k ∈ kinds G := by
      unfold kinds
      cases k with
      | cls d =>
        obtain ⟨y, hy⟩ := hk d rfl
        exact List.mem_append_right _ (List.mem_map.mpr ⟨(d, y), mem_lk hy, rfl⟩)
      | _ => simp
    have q := List.all_eq_true.mp (List.all_eq_true.mp c6 (c, x) (mem_lk hc)) k hk'
    exact of_decide_eq_true q
end

/-! ### defaults of keyword-only parameters -/
def dvW (K : PySem.W.Frag) : He.Dv → W → Bool
  | .non, .non => true
  | .bl b, .bl c => b == c
  | .int i, .int j => decide (i = j)
  | .str x, .str y => decide (x = sx y)
  | .adr p, .tup [] => (match K.lookup (p K) with
    | some ⟨.type c, _, .seq its _, _⟩ => decide (c = "tuple") && decide (its.size = 0)
    | _ => false)
  | _, _ => false
theorem dvW_ok {K : PySem.W.Frag} {d : He.Dv} {w : W} (h : dvW K d w = true) (B : List Addr) (H : Hp) : Rep K B H w (d.v K) := by
  unfold dvW at h
  split at h
  · exact .non
  · cases eq_of_beq h
    exact .bl _
  · cases of_decide_eq_true h
    exact .int _
  · cases of_decide_eq_true h
    exact .str _
  · split at h
    · rename_i p c dd its k sl q
      obtain ⟨h1, h2⟩ := Bool.and_eq_true_iff.mp h
      have h2' := of_decide_eq_true h2
      have e : its.toList = [] := by
        apply List.eq_nil_of_length_eq_zero
        simpa using h2'
      exact .tup (.inr ⟨_, its, k, q, congrArg Value.type (of_decide_eq_true h1), rfl, by rw [h2']; exact Nat.zero_le _, by rw [e]; exact .nil⟩) .nil
    · cases h
  · cases h
/-- the keyword-only default x of the def at f, if it is an object -/
def kwdAt (f : Str × Option Str) (x : Str) (K : PySem.W.Frag) : Addr := match K.lookup (He.fAd K f) with
  | some ⟨_, _, .func fd, _⟩ => (match fd.kwdefaults with
    | .ref D => (match PySem.W.nsIn K D x with
      | some (some (.ref a)) => a
      | _ => 0)
    | _ => 0)
  | _ => 0
def kwB (G : Dat) (K : PySem.W.Frag) : Bool := G.D.all fun p => all2 (fun q w => dvW K q.2 w) p.2.d.kwd p.2.kwW
theorem all2_at {A C : Type} {f : A → C → Bool} : ∀ {xs : List A} {ys : List C}, all2 f xs ys = true → ∀ {i : Nat} {x : A} {y : C}, xs[i]? = some x → ys[i]? = some y → f x y = true
  | [], _, _, i, x, y, h1, _ => by simp at h1
  | _ :: _, [], h, _, _, _, _, _ => by cases h
  | a :: xs, b :: ys, h, i, x, y, h1, h2 => by
    obtain ⟨q1, q2⟩ := Bool.and_eq_true_iff.mp (show (f a b && all2 f xs ys) = true from h)
    cases i with
    | zero =>
      simp only [List.getElem?_cons_zero, Option.some.injEq] at h1 h2
      subst h1 h2
      exact q1
    | succ i =>
      simp only [List.getElem?_cons_succ] at h1 h2
      exact all2_at q2 h1 h2
/-- the values in the parameters' order -/
def gP (pm : List Pk) {A : Type} (us mv ws : List A) : List A := pm.filterMap fun p => match p with
  | .a i => (us ++ ws)[i]?
  | .d j _ => mv[j]?
theorem vals_at {vs : List V} {us : List Value} (h : Vals vs us) (i : Nat) : (vs[i]? = none ∧ us[i]? = none) ∨ ∃ v u, vs[i]? = some v ∧ us[i]? = some u ∧ RelV v u := by
  induction h generalizing i with
  | nil => exact .inl ⟨by simp, by simp⟩
  | @cons v u vs us r _ ih =>
    cases i with
    | zero => exact .inr ⟨v, u, by simp, by simp, r⟩
    | succ i => simpa using ih i
theorem vals_app {vs zs : List V} {us ws : List Value} (h : Vals vs us) (k : Vals zs ws) : Vals (vs ++ zs) (us ++ ws) := by
  induction h with
  | nil => exact k
  | cons r _ ih => exact .cons r ih
theorem gP_vals : ∀ {pm : List Pk} {vs mz zs : List V} {us mv ws : List Value}, Vals vs us → Vals mz mv → Vals zs ws → Vals (gP pm vs mz zs) (gP pm us mv ws)
  | [], _, _, _, _, _, _, _, _, _ => .nil
  | .a i :: pm, vs, mz, zs, us, mv, ws, h1, h2, h3 => by
    have ih := gP_vals (pm := pm) h1 h2 h3
    unfold gP at ih ⊢
    rcases vals_at (vals_app h1 h3) i with ⟨e1, e2⟩ | ⟨v, u, e1, e2, r⟩
    · rw [List.filterMap_cons_none (by dsimp only; exact e1), List.filterMap_cons_none (by dsimp only; exact e2)]
      exact ih
    · rw [List.filterMap_cons_some (by dsimp only; exact e1), List.filterMap_cons_some (by dsimp only; exact e2)]
      exact .cons r ih
  | .d j _ :: pm, vs, mz, zs, us, mv, ws, h1, h2, h3 => by
    have ih := gP_vals (pm := pm) h1 h2 h3
    unfold gP at ih ⊢
    rcases vals_at h2 j with ⟨e1, e2⟩ | ⟨v, u, e1, e2, r⟩
    · rw [List.filterMap_cons_none (by dsimp only; exact e1), List.filterMap_cons_none (by dsimp only; exact e2)]
      exact ih
    · rw [List.filterMap_cons_some (by dsimp only; exact e1), List.filterMap_cons_some (by dsimp only; exact e2)]
      exact .cons r ih
theorem reps_app {K : PySem.W.Frag} {B : List Addr} {H : Hp} : ∀ {ws us : List W} {vs zs : List V}, Reps K B H ws vs → Reps K B H us zs → Reps K B H (ws ++ us) (vs ++ zs)
  | [], _, _, _, .nil, k => k
  | _ :: _, _, _, _, .cons r h, k => .cons r (reps_app h k)
theorem gP_reps {K : PySem.W.Frag} {B : List Addr} {H : Hp} {mz : List V} : ∀ {pm : List Pk} {ws us r : List W} {vs zs : List V}, Reps K B H ws vs → Reps K B H us zs → (∀ j w, Pk.d j w ∈ pm → ∃ v, mz[j]? = some v ∧ Rep K B H w v) → permW pm (ws ++ us) = some r → Reps K B H r (gP pm vs mz zs)
  | [], _, _, r, _, _, _, _, _, h => by
    cases h
    exact .nil
  | .a i :: pm, ws, us, r, vs, zs, h1, h2, h3, h => by
    unfold permW at h
    simp only [optList] at h
    split at h
    · rename_i b s e1 e2
      cases h
      have ih := gP_reps (mz := mz) (pm := pm) h1 h2 (fun j w m => h3 j w (List.mem_cons_of_mem _ m)) e2
      obtain ⟨v, q1, q2⟩ := (reps_app h1 h2).get e1
      unfold gP at ih ⊢
      rw [List.filterMap_cons_some (by dsimp only; exact q1)]
      exact .cons q2 ih
    · cases h
  | .d j w :: pm, ws, us, r, vs, zs, h1, h2, h3, h => by
    unfold permW at h
    simp only [optList] at h
    split at h
    · rename_i b s e1 e2
      cases e1
      cases h
      have ih := gP_reps (mz := mz) (pm := pm) h1 h2 (fun j w m => h3 j w (List.mem_cons_of_mem _ m)) e2
      obtain ⟨v, q1, q2⟩ := h3 j _ List.mem_cons_self
      unfold gP at ih ⊢
      rw [List.filterMap_cons_some (by dsimp only; exact q1)]
      exact .cons q2 ih
    · cases h
/-- the keyword-only parameters that lack -/
def msOf (F : FnD) (is : List Nat) : List (Str × He.Dv) := is.filterMap fun i => F.d.kwd[i]?
/-- every default's value is the def's -/
def pmB (F : FnD) (is : List Nat) (pm : List Pk) : Bool := (is.all fun i => decide (i < F.d.kwd.length)) && pm.all fun p => match p with
  | .a _ => true
  | .d j w => match is[j]? with
    | some i => (match F.kwW[i]? with
      | some u => wEq u w
      | none => false)
    | none => false
structure KbOk (F : FnD) (n : Nat) (ks : List Str) (pm : List Pk) (is : List Nat) : Prop where
  len : pm.length = F.ps.length
  pmB : pmB F is pm = true
  to : (F.d.kwd = [] ∧ ∀ (kV doc pm' : Value) (an : Option Addr) (cdv ct : Value) (us ws : List Value), us.length = n → ws.length = ks.length → bindArgs (PySem.W.fnOf F.d.name F.d.qual F.d.params F.d.body F.d.scope .none kV doc pm' an cdv ct) ⟨us, ks.zip ws⟩ = pure (F.ps.zip (gP pm us [] ws))) ∨
    (F.d.kwd ≠ [] ∧ ∀ (D : Addr) (doc pm' : Value) (an : Option Addr) (cdv ct : Value) (us mv ws : List Value), us.length = n → mv.length = is.length → ws.length = ks.length →
      KwChain D (((msOf F is).map (·.1)).zip mv) (bindArgs (PySem.W.fnOf F.d.name F.d.qual F.d.params F.d.body F.d.scope .none (.ref D) doc pm' an cdv ct) ⟨us, ks.zip ws⟩) (F.ps.zip (gP pm us mv ws)))
theorem fm_len {A : Type} {l : List A} : ∀ {is : List Nat}, (is.all fun i => decide (i < l.length)) = true → (is.filterMap fun i => l[i]?).length = is.length ∧ ∀ (j i : Nat), is[j]? = some i → (is.filterMap fun i => l[i]?)[j]? = l[i]?
  | [], _ => ⟨rfl, fun j i h => by simp at h⟩
  | k :: is, h => by
    rw [List.all_cons, Bool.and_eq_true, decide_eq_true_eq] at h
    obtain ⟨h1, h2⟩ := fm_len (l := l) h.2
    rw [List.filterMap_cons_some (List.getElem?_eq_getElem h.1)]
    refine ⟨by simp [h1], fun j i hj => ?_⟩
    cases j with
    | zero =>
      simp only [List.getElem?_cons_zero, Option.some.injEq] at hj
      subst hj
      simp [List.getElem?_eq_getElem h.1]
    | succ j => simpa using h2 j i (by simpa using hj)
theorem KbOk.kbV {K : PySem.W.Frag} {F : FnD} {fd : FuncData} {f : Addr} {n : Nat} {ks : List Str} {pm : List Pk} {is : List Nat} (h : KbOk F n ks pm is) (hk : all2 (fun q w => dvW K q.2 w) F.d.kwd F.kwW = true) (FD : FunD K F.d.name F.d.qual F.d.params F.d.body F.d.scope [] (F.d.kws K) f fd) : KbV K fd F.ps n ks pm := by
  have hp := h.pmB
  unfold Mi.pmB at hp
  obtain ⟨p1, p2⟩ := Bool.and_eq_true_iff.mp hp
  obtain ⟨l1, l2⟩ := fm_len p1
  have hd : ∀ (B : List Addr) (H : Hp) j w, Pk.d j w ∈ pm → ∃ v, ((msOf F is).map fun q => q.2.v K)[j]? = some v ∧ Rep K B H w v := fun B H j w m => by
    have q := List.all_eq_true.mp p2 _ m
    dsimp only at q
    split at q
    · rename_i i e1
      split at q
      · rename_i u e2
        have e3 := wEq_eq q
        subst e3
        have hi : i < F.d.kwd.length := of_decide_eq_true (List.all_eq_true.mp p1 i (List.mem_of_getElem? e1))
        have e4 := l2 j i e1
        rw [List.getElem?_eq_getElem hi] at e4
        refine ⟨(F.d.kwd[i]).2.v K, ?_, dvW_ok (all2_at (f := fun q w => dvW K q.2 w) hk (List.getElem?_eq_getElem hi) e2) B H⟩
        rw [List.getElem?_map]
        unfold msOf
        rw [e4] <;> rfl
      · cases q
    · cases q
  refine ⟨h.len, ?_⟩
  rcases h.to with ⟨e, t⟩ | ⟨e, t⟩
  · refine ⟨fun us ws => gP pm us [] ws, fun vs zs => gP pm vs [] zs, ⟨fun s us ws X k1 k2 => ?_, fun r1 r2 => gP_vals r1 .nil r2⟩, fun B H ws us vs zs r r1 r2 hr => gP_reps r1 r2 (fun j w m => ?_) hr⟩
    · obtain ⟨oc, od, dV, kV, doc, pm', an, cdv, ct, osl, rfl, lk, hcd, hD, hK⟩ := FD.ex
      rcases hD with ⟨_, rfl⟩ | ⟨z, _⟩
      · exact .of_eq (t kV doc pm' an cdv ct us ws k1 k2)
      · exact absurd rfl z
    · obtain ⟨v, e1, e2⟩ := hd B H j w m
      unfold msOf at e1
      rw [e] at e1
      have : (is.filterMap fun i => (([] : List (Str × He.Dv))[i]?)) = [] := by simp
      rw [this] at e1
      simp at e1
  · have hkw : F.d.kws K ≠ [] := by
      unfold He.DefD.kws
      intro z
      exact e (List.map_eq_nil_iff.mp z)
    have hms : ((msOf F is).map fun q => (q.1, q.2.v K)).map (·.1) = (msOf F is).map (·.1) := by rw [List.map_map] <;> rfl
    obtain ⟨mv, hb⟩ := FD.kbinds0 (ps := F.ps) n ks ((msOf F is).map fun q => (q.1, q.2.v K)) (fun us mv ws => gP pm us mv ws) hkw (fun q hq => by
      obtain ⟨z, hz, rfl⟩ := List.mem_map.mp hq
      unfold msOf at hz
      obtain ⟨i, _, hi⟩ := List.mem_filterMap.mp hz
      unfold He.DefD.kws
      exact List.mem_map.mpr ⟨z, List.mem_of_getElem? hi, rfl⟩) (fun r1 r2 r3 => gP_vals r1 r2 r3) fun D doc pm' an cdv ct us mv ws k1 k2 k3 => by
        rw [hms]
        exact t D doc pm' an cdv ct us mv ws k1 (by rw [k2, List.length_map]; exact l1) k3
    refine ⟨_, _, hb, fun B H ws us vs zs r r1 r2 hr => gP_reps r1 r2 (fun j w m => ?_) hr⟩
    rw [List.map_map]
    exact hd B H j w m
/-- all the calls with keywords -/
def KbAll (G : Dat) : List Shp → Prop
  | [] => True
  | s :: r => (∃ (F : FnD) (is : List Nat), G.df s.f = some F ∧ KbOk F s.n s.ks s.pm is) ∧ KbAll G r
theorem KbAll.at {G : Dat} : ∀ {l : List Shp} {s : Shp}, KbAll G l → s ∈ l → ∃ (F : FnD) (is : List Nat), G.df s.f = some F ∧ KbOk F s.n s.ks s.pm is
  | [], _, _, e => by cases e
  | p :: l, s, h, e => by
    rcases List.mem_cons.mp e with z | z
    · rw [z]
      exact h.1
    · exact KbAll.at (l := l) h.2 z
/-! ### the Hook -/
def obsM (G : Dat) (K : PySem.W.Frag) : He.AlD := (tabB G K && (kwB G K && G.D.all fun p => p.2.d.ok K), G.D.map fun p => He.fnW K p.2.d.at_)
def valM (G : Dat) : He.AlD := (true, G.D.map fun p => p.2.d.val)
def obsMG (n : Nat) (G : Dat) (g : Addr → Option Obj) : He.AlD := obsM G (He.frG g (He.asD g n))
def hookM (n : Nat) (G : Dat) : PySem.W.Hook where
  α := He.AlD
  obs := fun s => obsMG n G s.heap.get?
  val := fun _ => valM G
  says := fun _ h => ∃ K : PySem.W.Frag, K.In h ∧ obsM G K = valM G
  of := fun _ _ e => ⟨_, He.frG_in, e⟩
  keeps := fun _ _ _ ⟨K, hK, c⟩ k => ⟨K, PySem.W.Frag.In.keeps hK k, c⟩
def obM (n : Nat) (G : Dat) (s : PySem.W.SharedT) : He.AlD := obsMG n G (HandSHeadRun.getT s)
theorem obM_eq {n : Nat} {G : Dat} (s : PySem.W.SharedT) : obM n G s = (hookM n G).obs s.abs := by
  have e : HandSHeadRun.getT s = s.abs.heap.get? := funext (HandSHeadRun.getT_eq s)
  unfold obM
  rw [e] <;> rfl
/-- how a def of plain parameters is called -/
def BindOk (F : FnD) : Prop := F.pl = true → ∀ (kV doc pm : Value) (an : Option Addr) (cdv ct : Value) (us : List Value), us.length = F.ps.length → bindArgs (PySem.W.fnOf F.d.name F.d.qual F.d.params F.d.body F.d.scope .none kV doc pm an cdv ct) ⟨us, []⟩ = pure (F.ps.zip us)
def BindAll : List (Nat × FnD) → Prop
  | [] => True
  | F :: r => BindOk F.2 ∧ BindAll r
theorem BindAll.at : ∀ {l : List (Nat × FnD)} {i : Nat} {F : FnD}, BindAll l → (i, F) ∈ l → BindOk F
  | [], _, _, _, h => by cases h
  | p :: l, i, F, h, e => by
    rcases List.mem_cons.mp e with z | z
    · rw [← z] at h
      exact h.1
    · exact BindAll.at (l := l) h.2 z
def chkA (G : Dat) : Bool := all2 (fun p q => p.1 == q.1 && chkF G p.2 q.2) G.D G.T.fns
theorem chk_at {G : Dat} (hc : chkA G = true) : ∀ (f : Nat) (F : FnD), G.df f = some F → ∃ N : Fn, G.T.fn f = some N ∧ chkF G F N = true := fun f F hF => (all2_lk (f := fun F N => chkF G F N) hc f).1 F hF
theorem map_at {A C : Type} {f g : A → C} : ∀ {l : List A} {a : A}, l.map f = l.map g → a ∈ l → f a = g a
  | [], _, _, h => by cases h
  | b :: l, a, e, h => by
    rw [List.map_cons, List.map_cons] at e
    injection e with e1 e2
    rcases List.mem_cons.mp h with rfl | h
    · exact e1
    · exact map_at e2 h
theorem fnIn_of {G : Dat} {K : PySem.W.Frag} (c : obsM G K = valM G) (hb : BindAll G.D) (hkb : KbAll G G.KS) (hc : chkA G = true) (f : Nat) (F : FnD) (hF : G.df f = some F) : ∃ fd, FnIn G K f F fd := by
  have c1 : (tabB G K && (kwB G K && G.D.all fun p => p.2.d.ok K)) = true := congrArg (fun z : He.AlD => z.1) c
  obtain ⟨c3, c4⟩ := Bool.and_eq_true_iff.mp (Bool.and_eq_true_iff.mp c1).2
  have c2 : G.D.map (fun p => He.fnW K p.2.d.at_) = G.D.map fun p => p.2.d.val := congrArg (fun z : He.AlD => z.2) c
  have hm := mem_lk hF
  have ok : F.d.ok K = true := List.all_eq_true.mp c4 (f, F) hm
  have e : He.fnW K F.d.at_ = F.d.val := map_at c2 hm
  obtain ⟨N, _, hk⟩ := chk_at hc f F hF
  unfold chkF at hk
  simp only [Bool.and_eq_true, decide_eq_true_eq] at hk
  have hd : F.d.dfl = [] := List.isEmpty_iff.mp hk.2
  obtain ⟨fd, FD⟩ := He.DefD.funD e ok
  have ed : F.d.dvs K = [] := by unfold He.DefD.dvs; rw [hd] <;> rfl
  rw [ed] at FD
  refine ⟨fd, FD, fun hp => FD.bindsN (hb.at hm hp), fun n ks pm hs => ?_⟩
  obtain ⟨F', is, q1, q2⟩ := hkb.at hs
  rw [hF] at q1
  cases q1
  unfold kwB at c3
  exact q2.kbV (List.all_eq_true.mp c3 (f, F) hm) FD
/-- a law's end -/
theorem mi_walk {l : PySem.W.OpenLaw} {n f k : Nat} {q : Program} {loose : List Str} {XP : (Str → Option Value) → Heap → Prop} {d : DefRec} {G : Dat} {F : FnD} {x : Str}
    (hn : l.most = some 63) (hdf : d.params.defaults = []) (hF : G.df f = some F) (hat : F.d.at_ = (d.name, none)) (hps : F.ps = [x]) (hpl : F.pl = true) (hnm : namB G = true) (hb : BindAll G.D) (hkb : KbAll G G.KS) (hc : chkA G = true) (hr : Room (2 * n) callerA)
    (hsp : ∀ ns : List Int, ns.length ≤ 63 → ∃ m, callN G.T n f [.frz ns] [] = .ok (.bl true) m) : PySem.W.WalkO q loose XP (hookM k G).says l.row.toRowW d [] (fun f vs => PySem.call f vs) := by
  refine Att.attach_call hn hdf fun w s₀ s₁ mg mb fa o pm cd doc a vs ns Gr Y ho hd hcd hmg hobj hints hlen hg => ?_
  obtain ⟨K, KX, c⟩ := Y
  obtain ⟨fd, I⟩ := fnIn_of c hb hkb hc f F hF
  have ct : tabB G K = true := (Bool.and_eq_true_iff.mp (show (tabB G K && (kwB G K && G.D.all fun p => p.2.d.ok K)) = true from congrArg (fun z : He.AlD => z.1) c)).1
  have T0 : TabOk G K mg := tab_of KX Gr.T.g hnm ct
  have efa : fa = He.fAd K F.d.at_ := by
    have e1 := T0.fg f F d.name hF hat
    rw [hmg] at e1
    have e2 : He.fAd K F.d.at_ = He.ga K d.name := by rw [hat] <;> rfl
    rw [e2]
    cases e1
    rfl
  have hbind : ∀ (s : Shared) (u : Value), BindsTo s fd ⟨[u], []⟩ [(x, u)] := fun s u => by
    have z := I.df.bindsA (ps := F.ps) (hb.at (mem_lk hF) hpl) s [u] (by rw [hps] <;> rfl)
    rw [hps] at z
    exact z
  subst efa
  refine L2.law_call (CX := L2.CX l.prog w) (x := x) (sp := spF G.N K (callN G.T n) f F.ps.length) KX Gr.T.g Gr.T.b Gr.T.builtins Gr.T.nolimit hg hobj hints (Nat.le_trans hlen (by rw [sizeLine_eq]; decide)) hr (fun base hK hN => ?_) hbind (fun H hO hS => ?_) fun H e s' z => cx_no z
  · have z := fns_ok (P := l.prog) (w := w) (base := base) T0 (fun f F hF => fnIn_of c hb hkb hc f F hF) (chk_at hc) n f F fd hF I
    rw [hps] at z ⊢
    exact z
  · rw [hps]
    exact law_sp hO hS (hsp ns hlen)
end Mi
end

section
set_option Elab.async false
set_option linter.all false
set_option maxRecDepth 100000
/-! Mb: the bodies. -/
namespace MB
open Mi
def b0_spots : Fn := ⟨2, 7, .cons (.set 2 (.lst .nil)) (.cons (.for (.tp (.cons (.nm 3) (.cons (.nm 4) .nil))) (.enm (.var 0)) (.cons (.expr (.bm .extend (.var 2) (.cons (.lc [5, 6] (.tup (.cons (.var 3) (.cons (.var 5) .nil))) (.tp (.cons (.nm 5) (.cons (.nm 6) .nil))) (.enm (.var 4)) (.cons (.cmp .inn (.var 6) (.var 1)) .nil)) .nil))) .nil)) (.cons (.ret (.var 2)) .nil))⟩
def b1_between : Fn := ⟨2, 7, .cons (.unp (.cons (.tp (.cons (.nm 2) (.cons (.nm 3) .nil))) (.cons (.tp (.cons (.nm 4) (.cons (.nm 5) .nil))) .nil)) (.tup (.cons (.var 0) (.cons (.var 1) .nil)))) (.cons (.iff (.and (.cmp .ne (.var 2) (.var 4)) (.cmp .ne (.var 3) (.var 5))) (.cons (.ret (.non)) .nil) .nil) (.cons (.iff (.cmp .eq (.var 2) (.var 4)) (.cons (.ret (.lc [6] (.tup (.cons (.var 2) (.cons (.var 6) .nil))) (.nm 6) (.rng (.cons (.bin .add (.blt .min2 (.cons (.var 3) (.cons (.var 5) .nil))) (.int 1)) (.cons (.blt .max2 (.cons (.var 3) (.cons (.var 5) .nil))) .nil))) .nil)) .nil) .nil) (.cons (.ret (.lc [6] (.tup (.cons (.var 6) (.cons (.var 3) .nil))) (.nm 6) (.rng (.cons (.bin .add (.blt .min2 (.cons (.var 2) (.cons (.var 4) .nil))) (.int 1)) (.cons (.blt .max2 (.cons (.var 2) (.cons (.var 4) .nil))) .nil))) .nil)) .nil)))⟩
def b2_way_right : Fn := ⟨3, 7, .cons (.set 3 (.meth 0 (.var 0) (.cons (.var 1) (.cons (.var 2) .nil)))) (.cons (.iff (.or (.cmp .is (.var 3) .non) (.cmp .eq (.var 3) (.var 1))) (.cons (.ret (.bl true)) .nil) .nil) (.cons (.set 4 (.call 1 (.cons (.var 1) (.cons (.var 3) .nil)))) (.cons (.iff (.or (.cmp .is (.var 4) .non) (.cmp .ne (.lc [6] (.var 6) (.nm 6) (.ex (.var 4)) (.cons (.cmp .ne (.meth 1 (.var 0) (.cons (.var 6) .nil)) (.str ['~'])) .nil)) (.lst .nil))) (.cons (.ret (.bl false)) .nil) .nil) (.cons (.set 5 (.idx (.dct (.cons (.str ['u']) (.cons (.str ['d']) (.cons (.str ['d']) (.cons (.str ['u']) (.cons (.str ['r']) (.cons (.str ['l']) (.cons (.str ['l']) (.cons (.str ['r']) .nil))))))))) (.var 2))) (.cons (.iff (.and (.cmp .eq (.meth 1 (.var 0) (.cons (.var 3) .nil)) (.str ['~'])) (.cmp .ne (.meth 0 (.var 0) (.cons (.var 3) (.cons (.var 2) .nil))) (.var 3))) (.cons (.ret (.bl false)) .nil) .nil) (.cons (.iff (.cmp .ne (.meth 1 (.var 0) (.cons (.var 1) .nil)) (.str ['~'])) (.cons (.ret (.cmp .eq (.meth 0 (.var 0) (.cons (.var 3) (.cons (.var 5) .nil))) (.var 1))) .nil) .nil) (.cons (.ret (.cmp .eq (.meth 0 (.var 0) (.cons (.var 3) (.cons (.var 5) .nil))) (.meth 0 (.var 0) (.cons (.var 1) (.cons (.var 5) .nil))))) .nil)))))))⟩
def b3_is_text : Fn := ⟨1, 2, .cons (.iff (.or (.not (.isi (.var 0) [.str])) (.not (.chain .le .le (.int 1) (.blt .len (.cons (.var 0) .nil)) (.glo 1)))) (.cons (.ret (.bl false)) .nil) .nil) (.cons (.ret (.blt .all (.cons (.lc [1] (.cmp .inn (.var 1) (.glo 0)) (.nm 1) (.ex (.var 0)) .nil) .nil))) .nil)⟩
def b4_want_rows : Fn := ⟨1, 3, .cons (.iff (.or (.not (.isi (.var 0) [.list])) (.not (.chain .le .le (.int 1) (.blt .len (.cons (.var 0) .nil)) (.glo 1)))) (.cons (.nvr) .nil) .nil) (.cons (.for (.tp (.cons (.nm 1) (.cons (.nm 2) .nil))) (.enm (.var 0)) (.cons (.iff (.or (.not (.call 3 (.cons (.var 2) .nil))) (.cmp .ne (.blt .len (.cons (.var 2) .nil)) (.blt .len (.cons (.idx (.var 0) (.int 0)) .nil)))) (.cons (.nvr) .nil) .nil) .nil)) .nil)⟩
def b5_Floor__init : Fn := ⟨2, 2, .cons (.expr (.call 4 (.cons (.var 1) .nil))) (.cons (.fld (.var 0) 0 (.blt .tuple (.cons (.var 1) .nil))) .nil)⟩
def b6_mixed : Fn := ⟨2, 3, .cons (.set 2 (.bin .mod (.bin .mul (.bin .add (.bin .mod (.var 0) (.int 2147483646)) (.int 1)) (.bin .add (.bin .mul (.var 1) (.int 7919)) (.int 104729))) (.int 2147483647))) (.cons (.set 2 (.bin .mod (.bin .mul (.bin .add (.var 2) (.bin .mul (.bin .mod (.bin .fdiv (.var 0) (.int 2147483646)) (.int 1000003)) (.bin .add (.var 1) (.int 31)))) (.int 48271)) (.int 2147483629))) (.cons (.set 2 (.bin .mod (.bin .mul (.var 2) (.bin .add (.bin .add (.bin .fdiv (.var 2) (.int 1013)) (.int 69621)) (.var 1))) (.int 2147483587))) (.cons (.ret (.bin .mod (.bin .mul (.var 2) (.bin .add (.bin .fdiv (.var 2) (.int 2003)) (.int 40692))) (.int 2147483563))) .nil)))⟩
def b7_take : Fn := ⟨2, 3, .cons (.iff (.cmp .ge (.idx (.var 0) (.int 0)) (.bin .pow (.int 10) (.int 18))) (.cons (.set 2 (.bin .mod (.idx (.var 0) (.int 0)) (.var 1))) (.cons (.sub (.var 0) (.int 0) (.bin .fdiv (.idx (.var 0) (.int 0)) (.var 1))) (.cons (.ret (.var 2)) .nil))) .nil) (.cons (.sub (.var 0) (.int 2) (.bin .add (.idx (.var 0) (.int 2)) (.int 1))) (.cons (.ret (.bin .mod (.call 6 (.cons (.idx (.var 0) (.int 1)) (.cons (.idx (.var 0) (.int 2)) .nil))) (.var 1))) .nil))⟩
def b8_one : Fn := ⟨2, 2, .cons (.ret (.idx (.var 1) (.call 7 (.cons (.var 0) (.cons (.blt .len (.cons (.var 1) .nil)) .nil))))) .nil⟩
def b9_texts : Fn := ⟨3, 10, .cons (.unp (.cons (.nm 3) (.cons (.nm 4) .nil)) (.tup (.cons (.bin .add (.int 1) (.call 7 (.cons (.var 0) (.cons (.var 1) .nil)))) (.cons (.bin .add (.int 1) (.call 7 (.cons (.var 0) (.cons (.var 2) .nil)))) .nil)))) (.cons (.set 5 (.call 8 (.cons (.var 0) (.cons (.lst (.cons (.str ['.', '.', '.', '.', '~', '~', '~', '#', 'x', 'a', 'b', 'c', 'd']) (.cons (.str ['~', '~', '~', '~', '.', '#', 'a', 'b']) (.cons (.str ['.', '.', '.', '.', '.', '.']) (.cons (.str ['.', '.', '~', '#', 'c', 'd', '#']) (.cons (.str ['~', '~', '~', '.', 'x', '#']) (.cons (.str ['.', 'a', 'b', '.', 'c', 'd']) (.cons (.str ['.', '.', '.', '.', '#']) .nil)))))))) .nil)))) (.cons (.set 6 (.lc [7] (.lc [9] (.call 8 (.cons (.var 0) (.cons (.var 5) .nil))) (.nm 9) (.rng (.cons (.var 4) .nil)) .nil) (.nm 7) (.rng (.cons (.var 3) .nil)) .nil)) (.cons (.sub (.idx (.var 6) (.call 7 (.cons (.var 0) (.cons (.var 3) .nil)))) (.call 7 (.cons (.var 0) (.cons (.var 4) .nil))) (.call 8 (.cons (.var 0) (.cons (.lst (.cons (.str ['.']) (.cons (.str ['a']) .nil))) .nil)))) (.cons (.ret (.lc [8] (.bm .join (.str []) (.cons (.var 8) .nil)) (.nm 8) (.ex (.var 6)) .nil)) .nil))))⟩
def b10_source : Fn := ⟨1, 1, .cons (.ret (.lst (.cons (.var 0) (.cons (.var 0) (.cons (.int 0) .nil))))) .nil⟩
def b11_law : Fn := ⟨1, 7, .cons (.for (.nm 1) (.ex (.slc (.bin .add (.var 0) (.lst (.cons (.int 0) .nil))) .non (.int 4))) (.cons (.set 2 (.call 10 (.cons (.var 1) .nil))) (.cons (.set 3 (.call 9 (.cons (.var 2) (.cons (.int 6) (.cons (.int 6) .nil))))) (.cons (.set 4 (.make 0 (.cons (.var 3) .nil))) (.cons (.for (.nm 5) (.ex (.call 0 (.cons (.var 3) (.cons (.str ['.', '~', 'a', 'b', 'c', 'd']) .nil)))) (.cons (.iff (.not (.blt .all (.cons (.lc [6] (.call 2 (.cons (.var 4) (.cons (.var 5) (.cons (.var 6) .nil)))) (.nm 6) (.ex (.str ['u', 'r', 'd', 'l'])) .nil) .nil))) (.cons (.ret (.bl false)) .nil) .nil) .nil)) .nil))))) (.cons (.ret (.bl true)) .nil)⟩
def b12_Floor_sign : Fn := ⟨2, 2, .cons (.iff (.not (.meth 3 (.var 0) (.cons (.var 1) .nil))) (.cons (.nvr) .nil) .nil) (.cons (.ret (.meth 2 (.var 0) (.cons (.var 1) .nil))) .nil)⟩
def b13_next_to : Fn := ⟨2, 4, .cons (.unp (.cons (.nm 2) (.cons (.nm 3) .nil)) (.idx (.glo 5) (.bm .index (.glo 6) (.cons (.var 1) .nil)))) (.cons (.ret (.tup (.cons (.bin .add (.idx (.var 0) (.int 0)) (.var 2)) (.cons (.bin .add (.idx (.var 0) (.int 1)) (.var 3)) .nil)))) .nil)⟩
def b14_want_deed : Fn := ⟨1, 1, .cons (.iff (.not (.isi (.var 0) [.str])) (.cons (.nvr) .nil) .nil) (.cons (.iff (.or (.cmp .ne (.blt .len (.cons (.var 0) .nil)) (.int 1)) (.cmp .nin (.var 0) (.glo 6))) (.cons (.nvr) .nil) .nil) .nil)⟩
def b15_Floor_goes : Fn := ⟨3, 5, .cons (.iff (.not (.meth 4 (.var 0) (.cons (.var 1) .nil))) (.cons (.nvr) .nil) .nil) (.cons (.expr (.call 14 (.cons (.var 2) .nil))) (.cons (.par 3 4 (.var 1) (.call 13 (.cons (.var 1) (.cons (.var 2) .nil)))) (.cons (.whl (.cmp .eq (.meth 2 (.var 0) (.cons (.var 4) .nil)) (.glo 4)) (.cons (.par 3 4 (.var 4) (.call 13 (.cons (.var 4) (.cons (.var 2) .nil)))) .nil)) (.cons (.iff (.cmp .eq (.meth 2 (.var 0) (.cons (.var 4) .nil)) (.glo 3)) (.cons (.ret (.var 3)) .nil) .nil) (.cons (.ret (.ite (.cmp .eq (.meth 2 (.var 0) (.cons (.var 4) .nil)) (.glo 2)) .non (.var 4))) .nil)))))⟩
def b16_is_whole : Fn := ⟨1, 1, .cons (.ret (.and (.isi (.var 0) [.int]) (.not (.isi (.var 0) [.bool])))) .nil⟩
def b17_is_from : Fn := ⟨3, 3, .cons (.ret (.and (.call 16 (.cons (.var 0) .nil)) (.chain .le .le (.var 1) (.var 0) (.var 2)))) .nil⟩
def b18_is_place : Fn := ⟨3, 5, .cons (.iff (.or (.not (.isi (.var 0) [.tuple])) (.cmp .ne (.blt .len (.cons (.var 0) .nil)) (.int 2))) (.cons (.ret (.bl false)) .nil) .nil) (.cons (.unp (.cons (.nm 3) (.cons (.nm 4) .nil)) (.var 0)) (.cons (.ret (.and (.call 17 (.cons (.var 3) (.cons (.int 0) (.cons (.bin .sub (.var 1) (.int 1)) .nil)))) (.call 17 (.cons (.var 4) (.cons (.int 0) (.cons (.bin .sub (.var 2) (.int 1)) .nil)))))) .nil))⟩
def b19_Floor_has : Fn := ⟨2, 4, .cons (.unp (.cons (.nm 2) (.cons (.nm 3) .nil)) (.meth 5 (.var 0) .nil)) (.cons (.ret (.call 18 (.cons (.var 1) (.cons (.var 2) (.cons (.var 3) .nil))))) .nil)⟩
def b20_Floor_seen : Fn := ⟨2, 2, .cons (.iff (.not (.meth 3 (.var 0) (.cons (.var 1) .nil))) (.cons (.ret (.glo 3)) .nil) .nil) (.cons (.ret (.idx (.idx (.fld (.var 0) 0) (.idx (.var 1) (.int 0))) (.idx (.var 1) (.int 1)))) .nil)⟩
def b21_Floor_can_stand : Fn := ⟨2, 2, .cons (.ret (.and (.meth 3 (.var 0) (.cons (.var 1) .nil)) (.cmp .inn (.meth 2 (.var 0) (.cons (.var 1) .nil)) (.bin .add (.glo 7) (.glo 4))))) .nil⟩
def b22_Floor_size : Fn := ⟨1, 1, .cons (.ret (.tup (.cons (.blt .len (.cons (.fld (.var 0) 0) .nil)) (.cons (.blt .len (.cons (.idx (.fld (.var 0) 0) (.int 0)) .nil)) .nil)))) .nil⟩
def b23_icy : Fn := ⟨1, 6, .cons (.unp (.cons (.nm 1) (.cons (.nm 2) .nil)) (.tup (.cons (.bin .add (.int 1) (.call 7 (.cons (.var 0) (.cons (.int 6) .nil)))) (.cons (.bin .add (.int 1) (.call 7 (.cons (.var 0) (.cons (.int 6) .nil)))) .nil)))) (.cons (.set 3 (.lc [4] (.bin .mul (.lst (.cons (.str ['~']) .nil)) (.var 2)) (.nm 4) (.rng (.cons (.var 1) .nil)) .nil)) (.cons (.for (.nm 4) (.rng (.cons (.bin .add (.int 1) (.call 7 (.cons (.var 0) (.cons (.int 4) .nil)))) .nil)) (.cons (.sub (.idx (.var 3) (.call 7 (.cons (.var 0) (.cons (.var 1) .nil)))) (.call 7 (.cons (.var 0) (.cons (.var 2) .nil))) (.call 8 (.cons (.var 0) (.cons (.str ['#', '.', 'x', 'a', 'b', 'c', 'd']) .nil)))) .nil)) (.cons (.ret (.lc [5] (.bm .join (.str []) (.cons (.var 5) .nil)) (.nm 5) (.ex (.var 3)) .nil)) .nil)))⟩
def b24_sign : Fn := ⟨2, 4, .cons (.unp (.cons (.nm 2) (.cons (.nm 3) .nil)) (.var 1)) (.cons (.iff (.or (.not (.chain .le .lt (.int 0) (.var 2) (.blt .len (.cons (.var 0) .nil)))) (.not (.chain .le .lt (.int 0) (.var 3) (.blt .len (.cons (.idx (.var 0) (.int 0)) .nil))))) (.cons (.ret (.str ['#'])) .nil) .nil) (.cons (.ret (.idx (.idx (.var 0) (.var 2)) (.var 3))) .nil))⟩
def b25_next : Fn := ⟨2, 4, .cons (.unp (.cons (.nm 2) (.cons (.nm 3) .nil)) (.idx (.dct (.cons (.str ['u']) (.cons (.tup (.cons (.neg (.int 1)) (.cons (.int 0) .nil))) (.cons (.str ['r']) (.cons (.tup (.cons (.int 0) (.cons (.int 1) .nil))) (.cons (.str ['d']) (.cons (.tup (.cons (.int 1) (.cons (.int 0) .nil))) (.cons (.str ['l']) (.cons (.tup (.cons (.int 0) (.cons (.neg (.int 1)) .nil))) .nil))))))))) (.var 1))) (.cons (.ret (.tup (.cons (.bin .add (.idx (.var 0) (.int 0)) (.var 2)) (.cons (.bin .add (.idx (.var 0) (.int 1)) (.var 3)) .nil)))) .nil)⟩
def b26_goes : Fn := ⟨3, 6, .cons (.set 3 (.var 1)) (.cons (.set 4 (.call 25 (.cons (.var 3) (.cons (.var 2) .nil)))) (.cons (.whl (.cmp .eq (.call 24 (.cons (.var 0) (.cons (.var 4) .nil))) (.str ['~'])) (.cons (.set 3 (.var 4)) (.cons (.set 4 (.call 25 (.cons (.var 3) (.cons (.var 2) .nil)))) .nil))) (.cons (.set 5 (.call 24 (.cons (.var 0) (.cons (.var 4) .nil)))) (.cons (.iff (.cmp .eq (.var 5) (.str ['#'])) (.cons (.ret (.var 3)) .nil) .nil) (.cons (.ret (.idx (.lst (.cons (.var 4) (.cons .non .nil))) (.blt .int1 (.cons (.cmp .eq (.var 5) (.str ['x'])) .nil)))) .nil)))))⟩
def b27_right : Fn := ⟨2, 6, .cons (.for (.nm 2) (.ex (.call 0 (.cons (.var 1) (.cons (.str ['.', '~', 'a', 'b', 'c', 'd']) .nil)))) (.cons (.for (.nm 3) (.ex (.str ['u', 'r', 'd', 'l'])) (.cons (.set 4 (.call 26 (.cons (.var 1) (.cons (.var 2) (.cons (.var 3) .nil))))) (.cons (.set 5 (.meth 0 (.var 0) (.cons (.var 2) (.cons (.var 3) .nil)))) (.cons (.iff (.or (.cmp .ne (.var 5) (.var 4)) (.cmp .ne (.methK 0 (.var 0) .nil (.cons (.var 3) (.cons (.var 2) .nil)) [.a 0, .a 2, .a 1]) (.var 4))) (.cons (.ret (.bl false)) .nil) .nil) (.cons (.iff (.and (.cmp .isn (.var 5) .non) (.not (.isi (.var 5) [.tuple]))) (.cons (.ret (.bl false)) .nil) .nil) (.cons (.iff (.and (.cmp .isn (.var 5) .non) (.and (.cmp .eq (.call 24 (.cons (.var 1) (.cons (.var 5) .nil))) (.str ['~'])) (.cmp .ne (.meth 0 (.var 0) (.cons (.var 5) (.cons (.var 3) .nil))) (.var 5)))) (.cons (.ret (.bl false)) .nil) .nil) .nil)))))) .nil)) (.cons (.ret (.bl true)) .nil)⟩
def b28_law : Fn := ⟨1, 5, .cons (.for (.nm 1) (.ex (.slc (.bin .add (.var 0) (.lst (.cons (.int 0) .nil))) .non (.int 4))) (.cons (.set 2 (.call 10 (.cons (.var 1) .nil))) (.cons (.for (.nm 3) (.ex (.lst (.cons (.call 9 (.cons (.var 2) (.cons (.int 6) (.cons (.int 6) .nil)))) (.cons (.call 23 (.cons (.var 2) .nil)) .nil)))) (.cons (.set 4 (.make 0 (.cons (.blt .list (.cons (.var 3) .nil)) .nil))) (.cons (.iff (.or (.not (.call 27 (.cons (.var 4) (.cons (.var 3) .nil)))) (.cmp .ne (.meth 6 (.var 4) .nil) (.var 3))) (.cons (.ret (.bl false)) .nil) .nil) .nil))) .nil))) (.cons (.ret (.bl true)) .nil)⟩
def b29_Floor_rows : Fn := ⟨1, 1, .cons (.ret (.blt .list (.cons (.fld (.var 0) 0) .nil))) .nil⟩
def b30_back_right : Fn := ⟨2, 5, .cons (.for (.tp (.cons (.nm 2) (.cons (.nm 3) .nil))) (.ex (.lst (.cons (.tup (.cons (.str ['u']) (.cons (.str ['d']) .nil))) (.cons (.tup (.cons (.str ['d']) (.cons (.str ['u']) .nil))) (.cons (.tup (.cons (.str ['r']) (.cons (.str ['l']) .nil))) (.cons (.tup (.cons (.str ['l']) (.cons (.str ['r']) .nil))) .nil)))))) (.cons (.set 4 (.meth 0 (.var 0) (.cons (.var 1) (.cons (.var 2) .nil)))) (.cons (.iff (.and (.cmp .isn (.var 4) .non) (.and (.cmp .ne (.var 4) (.var 1)) (.cmp .ne (.meth 0 (.var 0) (.cons (.var 4) (.cons (.var 3) .nil))) (.var 1)))) (.cons (.ret (.bl false)) .nil) .nil) .nil))) (.cons (.ret (.bl true)) .nil)⟩
def b31_ways_right : Fn := ⟨4, 8, .cons (.for (.nm 4) (.ex (.var 2)) (.cons (.for (.nm 5) (.ex (.str ['u', 'r', 'd', 'l'])) (.cons (.set 6 (.meth 0 (.var 0) (.cons (.var 4) (.cons (.var 5) .nil)))) (.cons (.set 7 (.meth 0 (.var 1) (.cons (.var 4) (.cons (.var 5) .nil)))) (.cons (.iff (.and (.cmp .eq (.var 4) (.var 3)) (.cmp .ne (.var 7) (.var 6))) (.cons (.ret (.bl false)) .nil) .nil) (.cons (.iff (.and (.cmp .eq (.var 6) (.var 3)) (.cmp .ne (.var 7) (.var 3))) (.cons (.ret (.bl false)) .nil) .nil) (.cons (.iff (.and (.cmp .ne (.var 7) (.var 6)) (.or (.cmp .ne (.var 7) (.var 3)) (.cmp .ne (.meth 0 (.var 1) (.cons (.var 3) (.cons (.var 5) .nil))) (.var 6)))) (.cons (.ret (.bl false)) .nil) .nil) .nil)))))) .nil)) (.cons (.ret (.bl true)) .nil)⟩
def b32_cut : Fn := ⟨2, 5, .cons (.unp (.cons (.nm 2) (.cons (.nm 3) .nil)) (.var 1)) (.cons (.set 4 (.idx (.var 0) (.var 2))) (.cons (.ret (.bin .add (.bin .add (.slc (.var 0) .non (.var 2)) (.lst (.cons (.bin .add (.bin .add (.slc (.var 4) .non (.var 3)) (.str ['.'])) (.slc (.var 4) (.bin .add (.var 3) (.int 1)) .non)) .nil))) (.slc (.var 0) (.bin .add (.var 2) (.int 1)) .non))) .nil))⟩
def b33_law : Fn := ⟨1, 9, .cons (.for (.nm 1) (.ex (.slc (.bin .add (.var 0) (.lst (.cons (.int 0) .nil))) .non (.int 3))) (.cons (.set 2 (.call 10 (.cons (.var 1) .nil))) (.cons (.set 3 (.call 9 (.cons (.var 2) (.cons (.int 6) (.cons (.int 6) .nil))))) (.cons (.set 4 (.make 0 (.cons (.var 3) .nil))) (.cons (.set 5 (.call 0 (.cons (.var 3) (.cons (.str ['~']) .nil)))) (.cons (.for (.nm 6) (.rng (.cons (.blt .min2 (.cons (.int 3) (.cons (.blt .len (.cons (.var 5) .nil)) .nil))) .nil)) (.cons (.set 7 (.bm .popAt (.var 5) (.cons (.call 7 (.cons (.var 2) (.cons (.blt .len (.cons (.var 5) .nil)) .nil))) .nil))) (.cons (.set 8 (.make 0 (.cons (.call 32 (.cons (.var 3) (.cons (.var 7) .nil))) .nil))) (.cons (.iff (.not (.call 31 (.cons (.var 4) (.cons (.var 8) (.cons (.call 0 (.cons (.var 3) (.cons (.str ['.', '~', 'a', 'b', 'c', 'd']) .nil))) (.cons (.var 7) .nil)))))) (.cons (.ret (.bl false)) .nil) .nil) (.cons (.iff (.not (.call 30 (.cons (.var 8) (.cons (.var 7) .nil)))) (.cons (.ret (.bl false)) .nil) .nil) (.cons (.iff (.cmp .ne (.blt .sorted (.cons (.bin .add (.meth 7 (.var 4) .nil) (.lst (.cons (.var 7) .nil))) .nil)) (.meth 7 (.var 8) .nil)) (.cons (.ret (.bl false)) .nil) .nil) .nil)))))) .nil)))))) (.cons (.ret (.bl true)) .nil)⟩
def b34_Floor_open_places : Fn := ⟨1, 2, .cons (.ret (.lc [1] (.var 1) (.nm 1) (.ex (.meth 8 (.var 0) .nil)) (.cons (.cmp .inn (.meth 2 (.var 0) (.cons (.var 1) .nil)) (.glo 7)) .nil))) .nil⟩
def b35_Floor_places : Fn := ⟨1, 5, .cons (.unp (.cons (.nm 1) (.cons (.nm 2) .nil)) (.meth 5 (.var 0) .nil)) (.cons (.ret (.lc2 [3, 4] [4] (.tup (.cons (.var 3) (.cons (.var 4) .nil))) (.nm 3) (.rng (.cons (.var 1) .nil)) (.nm 4) (.rng (.cons (.var 2) .nil)) .nil)) .nil)⟩
def b36_are_wishes : Fn := ⟨2, 3, .cons (.iff (.or (.not (.isi2 (.var 1) .list .tuple)) (.not (.blt .all (.cons (.lc [2] (.meth 3 (.var 0) (.cons (.var 2) .nil)) (.nm 2) (.ex (.var 1)) .nil) .nil)))) (.cons (.ret (.bl false)) .nil) .nil) (.cons (.ret (.cmp .eq (.lset (.var 1)) (.blt .len (.cons (.var 1) .nil)))) .nil)⟩
def b37_is_turn : Fn := ⟨1, 1, .cons (.ret (.and (.isi (.var 0) [.str]) (.cmp .inn (.var 0) (.glo 8)))) .nil⟩
def b38_is_book : Fn := ⟨2, 4, .cons (.iff (.cmp .is (.var 1) .non) (.cons (.ret (.bl true)) .nil) .nil) (.cons (.set 2 (.meth 10 (.var 0) .nil)) (.cons (.iff (.or (.not (.isi (.var 1) [.dict])) (.cmp .ne (.blt .len (.cons (.var 1) .nil)) (.blt .len (.cons (.var 2) .nil)))) (.cons (.ret (.bl false)) .nil) .nil) (.cons (.ret (.blt .all (.cons (.lc [3] (.and (.cmp .inn (.var 3) (.var 1)) (.call 37 (.cons (.idx (.var 1) (.var 3)) .nil))) (.nm 3) (.ex (.var 2)) .nil) .nil))) .nil)))⟩
def b39_first_wrong : Fn := ⟨5, 5, .cons (.iff (.not (.isi (.var 0) [(.cls 0)])) (.cons (.ret (.str ['f', 'l', 'o', 'o', 'r'])) .nil) .nil) (.cons (.iff (.or (.not (.meth 3 (.var 0) (.cons (.var 1) .nil))) (.cmp .nin (.var 1) (.meth 7 (.var 0) .nil))) (.cons (.ret (.str ['b', 'e', 'g', 'i', 'n'])) .nil) .nil) (.cons (.iff (.not (.call 37 (.cons (.var 2) .nil))) (.cons (.ret (.str ['t', 'u', 'r', 'n'])) .nil) .nil) (.cons (.iff (.not (.call 38 (.cons (.var 0) (.cons (.var 3) .nil)))) (.cons (.ret (.str ['b', 'o', 'o', 'k'])) .nil) .nil) (.cons (.ret (.ite (.call 36 (.cons (.var 0) (.cons (.var 4) .nil))) .non (.str ['w', 'i', 's', 'h', 'e', 's']))) .nil))))⟩
def b40_World__init : Fn := ⟨6, 8, .cons (.set 6 (.call 39 (.cons (.var 1) (.cons (.var 2) (.cons (.var 3) (.cons (.var 4) (.cons (.var 5) .nil))))))) (.cons (.iff (.cmp .isn (.var 6) .non) (.cons (.nvr) .nil) .nil) (.cons (.fld (.var 0) 5 (.var 1)) (.cons (.fld (.var 0) 4 (.dc [7] (.var 7) (.ite (.cmp .is (.var 4) .non) (.glo 6) (.idx (.var 4) (.var 7))) (.nm 7) (.ex (.meth 10 (.var 1) .nil)) .nil)) (.cons (.fld (.var 0) 3 (.blt .tuple (.cons (.blt .sorted (.cons (.var 5) .nil)) .nil))) (.cons (.fld (.var 0) 2 (.var 2)) (.cons (.fld (.var 0) 1 (.tup (.cons (.var 2) (.cons (.var 3) .nil)))) .nil))))))⟩
def b41_made : Fn := ⟨1, 2, .cons (.set 1 (.make 0 (.cons (.blt .list (.cons (.idx (.var 0) (.str ['t', 'e', 'x', 't', 's'])) .nil)) .nil))) (.cons (.ret (.makeK 1 (.cons (.var 1) (.cons (.idx (.var 0) (.str ['f', 'r', 'o', 'm'])) .nil)) (.cons (.idx (.var 0) (.str ['s', 'w', 'i', 'n', 'g'])) (.cons (.blt .dict1 (.cons (.idx (.var 0) (.str ['p', 'a', 'g', 'e', 's'])) .nil)) (.cons (.blt .list (.cons (.idx (.var 0) (.str ['g', 'o', 'a', 'l', 's'])) .nil)) .nil))) [.a 0, .a 1, .a 2, .a 3, .a 4, .a 5])) .nil)⟩
def b42_other : Fn := ⟨3, 5, .cons (.set 3 (.lst (.cons (.str ['u', 'r', 'd', 'l']) (.cons (.str ['r', 'd', 'l', 'u']) (.cons (.str ['d', 'l', 'u', 'r']) (.cons (.str ['l', 'u', 'r', 'd']) (.cons (.str ['u', 'l', 'd', 'r']) (.cons (.str ['d', 'r', 'u', 'l']) (.cons (.str ['l', 'd', 'r', 'u']) (.cons (.str ['r', 'u', 'l', 'd']) .nil)))))))))) (.cons (.expr (.bm .remove (.var 3) (.cons (.idx (.idx (.var 1) (.str ['p', 'a', 'g', 'e', 's'])) (.var 2)) .nil))) (.cons (.set 4 (.blt .dict1 (.cons (.var 1) .nil))) (.cons (.sub (.var 4) (.str ['p', 'a', 'g', 'e', 's']) (.blt .dict1 (.cons (.idx (.var 1) (.str ['p', 'a', 'g', 'e', 's'])) .nil))) (.cons (.sub (.idx (.var 4) (.str ['p', 'a', 'g', 'e', 's'])) (.var 2) (.call 8 (.cons (.var 0) (.cons (.var 3) .nil)))) (.cons (.ret (.call 41 (.cons (.var 4) .nil))) .nil)))))⟩
def b43_deeds : Fn := ⟨2, 3, .cons (.ret (.bm .join (.str []) (.cons (.lc [2] (.call 8 (.cons (.var 0) (.cons (.str ['u', 'r', 'd', 'l']) .nil))) (.nm 2) (.rng (.cons (.call 7 (.cons (.var 0) (.cons (.bin .add (.var 1) (.int 1)) .nil))) .nil)) .nil) .nil))) .nil⟩
def b44_right : Fn := ⟨4, 12, .cons (.par 4 5 (.meth 9 (.var 0) (.cons (.var 3) .nil)) (.meth 9 (.var 1) (.cons (.var 3) .nil))) (.cons (.set 6 (.lc [9, 10] (.var 9) (.tp (.cons (.nm 9) (.cons (.nm 10) .nil))) (.ex (.meth 11 (.var 0) (.cons (.var 3) .nil))) (.cons (.cmp .eq (.var 10) (.var 2)) .nil))) (.cons (.iff (.cmp .eq (.var 6) (.lst .nil)) (.cons (.ret (.and (.cmp .eq (.var 4) (.var 5)) (.cmp .eq (.meth 11 (.var 0) (.cons (.var 3) .nil)) (.meth 11 (.var 1) (.cons (.var 3) .nil))))) .nil) .nil) (.cons (.set 7 (.idx (.var 6) (.int 0))) (.cons (.iff (.or (.cmp .ne (.slc (.var 4) .non (.var 7)) (.slc (.var 5) .non (.var 7))) (.or (.cmp .eq (.idx (.var 4) (.var 7)) (.idx (.var 5) (.var 7))) (.cmp .ne (.idx (.idx (.var 4) (.var 7)) (.int 0)) (.idx (.idx (.var 5) (.var 7)) (.int 0))))) (.cons (.ret (.bl false)) .nil) .nil) (.cons (.set 8 (.lc [11] (.var 11) (.nm 11) (.ex (.meth 11 (.var 0) (.cons (.var 3) .nil))) (.cons (.cmp .le (.idx (.var 11) (.int 0)) (.var 7)) .nil))) (.cons (.ret (.cmp .eq (.var 8) (.lc [11] (.var 11) (.nm 11) (.ex (.meth 11 (.var 1) (.cons (.var 3) .nil))) (.cons (.cmp .le (.idx (.var 11) (.int 0)) (.var 7)) .nil)))) .nil))))))⟩
def b45_swing : Fn := ⟨1, 1, .cons (.ret (.call 8 (.cons (.var 0) (.cons (.lst (.cons (.str ['u', 'r', 'd', 'l']) (.cons (.str ['r', 'd', 'l', 'u']) (.cons (.str ['d', 'l', 'u', 'r']) (.cons (.str ['l', 'u', 'r', 'd']) (.cons (.str ['u', 'l', 'd', 'r']) (.cons (.str ['d', 'r', 'u', 'l']) (.cons (.str ['l', 'd', 'r', 'u']) (.cons (.str ['r', 'u', 'l', 'd']) (.cons (.str ['u', 'r', 'd', 'l']) (.cons (.str ['u', 'r', 'd', 'l']) .nil))))))))))) .nil)))) .nil⟩
def b46_plan : Fn := ⟨2, 7, .cons (.set 2 (.call 0 (.cons (.var 1) (.cons (.str ['.', 'a', 'b', 'c', 'd']) .nil)))) (.cons (.set 3 (.dct (.cons (.str ['t', 'e', 'x', 't', 's']) (.cons (.var 1) (.cons (.str ['f', 'r', 'o', 'm']) (.cons (.call 8 (.cons (.var 0) (.cons (.var 2) .nil))) (.cons (.str ['s', 'w', 'i', 'n', 'g']) (.cons (.call 45 (.cons (.var 0) .nil)) .nil)))))))) (.cons (.sub (.var 3) (.str ['p', 'a', 'g', 'e', 's']) (.blt .dict1 (.cons (.lc [6] (.tup (.cons (.var 6) (.cons (.call 45 (.cons (.var 0) .nil)) .nil))) (.nm 6) (.ex (.str ['a', 'b', 'c', 'd'])) (.cons (.cmp .inn (.var 6) (.bm .join (.str []) (.cons (.var 1) .nil))) .nil)) .nil))) (.cons (.set 4 (.lc [5] (.call 8 (.cons (.var 0) (.cons (.call 0 (.cons (.var 1) (.cons (.str ['#', '.', '~', 'x', 'a', 'b', 'c', 'd']) .nil))) .nil))) (.nm 5) (.rng (.cons (.call 7 (.cons (.var 0) (.cons (.int 3) .nil))) .nil)) .nil)) (.cons (.sub (.var 3) (.str ['g', 'o', 'a', 'l', 's']) (.sset (.var 4))) (.cons (.ret (.var 3)) .nil)))))⟩
def b47_law : Fn := ⟨1, 12, .cons (.for (.nm 1) (.ex (.slc (.bin .add (.var 0) (.lst (.cons (.int 0) .nil))) .non (.int 3))) (.cons (.set 2 (.call 10 (.cons (.var 1) .nil))) (.cons (.set 3 (.call 46 (.cons (.var 2) (.cons (.call 9 (.cons (.var 2) (.cons (.int 6) (.cons (.int 6) .nil)))) .nil)))) (.cons (.set 4 (.call 41 (.cons (.var 3) .nil))) (.cons (.lk (.idx (.var 3) (.str ['p', 'a', 'g', 'e', 's'])) (.for (.nm 5) (.dk (.idx (.var 3) (.str ['p', 'a', 'g', 'e', 's']))) (.cons (.set 8 (.call 42 (.cons (.var 2) (.cons (.var 3) (.cons (.var 5) .nil))))) (.cons (.for (.nm 9) (.rng (.cons (.int 2) .nil)) (.cons (.iff (.not (.call 44 (.cons (.var 4) (.cons (.var 8) (.cons (.var 5) (.cons (.call 43 (.cons (.var 2) (.cons (.int 24) .nil))) .nil)))))) (.cons (.ret (.bl false)) .nil) .nil) .nil)) .nil)))) (.cons (.set 6 (.call 43 (.cons (.var 2) (.cons (.int 24) .nil)))) (.cons (.lk (.idx (.var 3) (.str ['p', 'a', 'g', 'e', 's'])) (.set 7 (.lc [5] (.var 5) (.nm 5) (.dk (.idx (.var 3) (.str ['p', 'a', 'g', 'e', 's']))) (.cons (.cmp .nin (.var 5) (.lc [10, 11] (.var 11) (.tp (.cons (.nm 10) (.cons (.nm 11) .nil))) (.ex (.meth 11 (.var 4) (.cons (.var 6) .nil))) .nil)) .nil)))) (.cons (.iff (.not (.blt .all (.cons (.lc [5] (.cmp .eq (.meth 9 (.call 42 (.cons (.var 2) (.cons (.var 3) (.cons (.var 5) .nil)))) (.cons (.var 6) .nil)) (.meth 9 (.var 4) (.cons (.var 6) .nil))) (.nm 5) (.ex (.var 7)) .nil) .nil))) (.cons (.ret (.bl false)) .nil) .nil) .nil)))))))) (.cons (.ret (.bl true)) .nil)⟩
def b48_want_row : Fn := ⟨1, 3, .cons (.iff (.not (.isi (.var 0) [.str])) (.cons (.nvr) .nil) .nil) (.cons (.for (.tp (.cons (.nm 1) (.cons (.nm 2) .nil))) (.enm (.var 0)) (.cons (.iff (.cmp .nin (.var 2) (.glo 6)) (.cons (.nvr) .nil) .nil) .nil)) .nil)⟩
def b49_World_walk : Fn := ⟨2, 2, .cons (.expr (.call 48 (.cons (.var 1) .nil))) (.cons (.ret (.meth 12 (.var 0) (.cons (.fld (.var 0) 1) (.cons (.var 1) .nil)))) .nil)⟩
def b50_World_comings : Fn := ⟨2, 7, .cons (.set 2 (.meth 9 (.var 0) (.cons (.var 1) .nil))) (.cons (.set 3 (.lst .nil)) (.cons (.for (.nm 4) (.rng (.cons (.int 1) (.cons (.blt .len (.cons (.var 2) .nil)) .nil))) (.cons (.par 5 6 (.idx (.var 2) (.bin .sub (.var 4) (.int 1))) (.idx (.var 2) (.var 4))) (.cons (.iff (.and (.cmp .isn (.var 6) .non) (.and (.cmp .ne (.idx (.var 6) (.int 0)) (.idx (.var 5) (.int 0))) (.cmp .inn (.meth 2 (.fld (.var 0) 5) (.cons (.idx (.var 6) (.int 0)) .nil)) (.glo 9)))) (.cons (.expr (.bm .append (.var 3) (.cons (.tup (.cons (.var 4) (.cons (.meth 2 (.fld (.var 0) 5) (.cons (.idx (.var 6) (.int 0)) .nil)) .nil))) .nil))) .nil) .nil) .nil))) (.cons (.ret (.var 3)) .nil)))⟩
def b51_Floor_letters : Fn := ⟨1, 3, .cons (.ret (.bm .join (.str []) (.cons (.lc [1] (.var 1) (.nm 1) (.ex (.glo 9)) (.cons (.blt .any (.cons (.lc [2] (.cmp .inn (.var 1) (.var 2)) (.nm 2) (.ex (.fld (.var 0) 0)) .nil) .nil)) .nil)) .nil))) .nil⟩
def b52_World_gone : Fn := ⟨3, 5, .cons (.set 3 (.lst (.cons (.var 1) .nil))) (.cons (.for (.nm 4) (.ex (.var 2)) (.cons (.expr (.bm .append (.var 3) (.cons (.meth 13 (.var 0) (.cons (.idx (.var 3) (.neg (.int 1))) (.cons (.var 4) .nil))) .nil))) .nil)) (.cons (.ret (.var 3)) .nil))⟩
def b53_want_turn : Fn := ⟨1, 1, .cons (.iff (.not (.call 37 (.cons (.var 0) .nil))) (.cons (.nvr) .nil) .nil) .nil⟩
def b54_way : Fn := ⟨2, 2, .cons (.expr (.call 53 (.cons (.var 0) .nil))) (.cons (.expr (.call 14 (.cons (.var 1) .nil))) (.cons (.ret (.idx (.var 0) (.bm .index (.glo 6) (.cons (.var 1) .nil)))) .nil))⟩
def b55_row_turned : Fn := ⟨2, 3, .cons (.expr (.call 53 (.cons (.var 0) .nil))) (.cons (.expr (.call 48 (.cons (.var 1) .nil))) (.cons (.ret (.bm .join (.str []) (.cons (.lc [2] (.call 54 (.cons (.var 0) (.cons (.var 2) .nil))) (.nm 2) (.ex (.var 1)) .nil) .nil))) .nil))⟩
def b56_then : Fn := ⟨2, 2, .cons (.expr (.call 53 (.cons (.var 0) .nil))) (.cons (.expr (.call 53 (.cons (.var 1) .nil))) (.cons (.ret (.call 55 (.cons (.var 1) (.cons (.var 0) .nil)))) .nil))⟩
def b57_World_behind : Fn := ⟨3, 7, .cons (.iff (.cmp .is (.var 1) .non) (.cons (.ret (.non)) .nil) .nil) (.cons (.unp (.cons (.nm 3) (.cons (.nm 4) .nil)) (.var 1)) (.cons (.set 5 (.meth 0 (.fld (.var 0) 5) (.cons (.var 3) (.cons (.call 54 (.cons (.var 4) (.cons (.var 2) .nil))) .nil)))) (.cons (.iff (.or (.cmp .is (.var 5) .non) (.cmp .eq (.var 5) (.var 3))) (.cons (.ret (.ite (.cmp .is (.var 5) .non) .non (.var 1))) .nil) .nil) (.cons (.set 6 (.meth 2 (.fld (.var 0) 5) (.cons (.var 5) .nil))) (.cons (.ret (.tup (.cons (.var 5) (.cons (.ite (.cmp .inn (.var 6) (.glo 9)) (.call 56 (.cons (.var 4) (.cons (.idx (.fld (.var 0) 4) (.var 6)) .nil))) (.var 4)) .nil)))) .nil)))))⟩
def b58_spots_of : Fn := ⟨1, 2, .cons (.ret (.lc [1] (.ite (.cmp .is (.var 1) .non) .non (.idx (.var 1) (.int 0))) (.nm 1) (.ex (.var 0)) .nil)) .nil⟩
def b59_stretch_right : Fn := ⟨5, 9, .cons (.iff (.cmp .is (.idx (.var 1) (.var 3)) .non) (.cons (.ret (.blt .all (.cons (.lc [7] (.cmp .is (.var 7) .non) (.nm 7) (.ex (.slc (.var 1) (.var 3) (.bin .add (.var 4) (.int 1)))) .nil) .nil))) .nil) .nil) (.cons (.unp (.cons (.nm 5) (.cons (.nm 6) .nil)) (.idx (.var 1) (.var 3))) (.cons (.for (.nm 7) (.ex (.slc (.var 1) (.var 3) (.var 4))) (.cons (.iff (.and (.cmp .isn (.var 7) .non) (.cmp .ne (.idx (.var 7) (.int 1)) (.var 6))) (.cons (.ret (.bl false)) .nil) .nil) .nil)) (.cons (.set 8 (.meth 14 (.var 0) (.cons (.tup (.cons (.var 5) (.cons (.str ['u', 'r', 'd', 'l']) .nil))) .nil))) (.cons (.ret (.cmp .eq (.call 58 (.cons (.meth 9 (.var 8) (.cons (.call 55 (.cons (.var 6) (.cons (.slc (.var 2) (.var 3) (.var 4)) .nil))) .nil)) .nil)) (.call 58 (.cons (.slc (.var 1) (.var 3) (.bin .add (.var 4) (.int 1))) .nil)))) .nil))))⟩
def b60_right : Fn := ⟨4, 10, .cons (.set 4 (.meth 9 (.var 0) (.cons (.var 3) .nil))) (.cons (.iff (.cmp .ne (.call 58 (.cons (.meth 9 (.var 1) (.cons (.meth 15 (.var 0) (.cons (.var 3) .nil)) .nil)) .nil)) (.call 58 (.cons (.var 4) .nil))) (.cons (.ret (.bl false)) .nil) .nil) (.cons (.set 5 (.bin .add (.bin .add (.lst (.cons (.int 0) .nil)) (.lc [8, 9] (.var 8) (.tp (.cons (.nm 8) (.cons (.nm 9) .nil))) (.ex (.meth 11 (.var 0) (.cons (.var 3) .nil))) .nil)) (.lst (.cons (.blt .len (.cons (.var 3) .nil)) .nil)))) (.cons (.for (.tp (.cons (.nm 6) (.cons (.nm 7) .nil))) (.zip (.cons (.var 5) (.cons (.slc (.var 5) (.int 1) .non) .nil))) (.cons (.iff (.not (.call 59 (.cons (.var 1) (.cons (.var 4) (.cons (.var 3) (.cons (.var 6) (.cons (.var 7) .nil))))))) (.cons (.ret (.bl false)) .nil) .nil) .nil)) (.cons (.for (.tp (.cons (.nm 8) (.cons (.nm 9) .nil))) (.ex (.meth 11 (.var 0) (.cons (.var 3) .nil))) (.cons (.iff (.cmp .ne (.idx (.idx (.var 4) (.var 8)) (.int 1)) (.call 56 (.cons (.idx (.idx (.var 4) (.bin .sub (.var 8) (.int 1))) (.int 1)) (.cons (.idx (.idx (.var 2) (.str ['p', 'a', 'g', 'e', 's'])) (.var 9)) .nil)))) (.cons (.ret (.bl false)) .nil) .nil) .nil)) (.cons (.ret (.bl true)) .nil)))))⟩
def b61_law : Fn := ⟨1, 7, .cons (.for (.nm 1) (.ex (.slc (.bin .add (.var 0) (.lst (.cons (.int 0) .nil))) .non (.int 3))) (.cons (.set 2 (.call 10 (.cons (.var 1) .nil))) (.cons (.set 3 (.call 46 (.cons (.var 2) (.cons (.call 9 (.cons (.var 2) (.cons (.int 6) (.cons (.int 6) .nil)))) .nil)))) (.cons (.set 4 (.call 41 (.cons (.var 3) .nil))) (.cons (.set 5 (.makeK 1 (.cons (.make 0 (.cons (.idx (.var 3) (.str ['t', 'e', 'x', 't', 's'])) .nil)) (.cons (.idx (.var 3) (.str ['f', 'r', 'o', 'm'])) .nil)) .nil [.a 0, .a 1, .a 2, .d 0 (.str ['u', 'r', 'd', 'l']), .d 1 .non, .d 2 (.tup [])])) (.cons (.for (.nm 6) (.rng (.cons (.int 3) .nil)) (.cons (.iff (.not (.call 60 (.cons (.var 4) (.cons (.var 5) (.cons (.var 3) (.cons (.call 43 (.cons (.var 2) (.cons (.int 20) .nil))) .nil)))))) (.cons (.ret (.bl false)) .nil) .nil) .nil)) .nil)))))) (.cons (.ret (.bl true)) .nil)⟩
def b62_World_begun : Fn := ⟨2, 3, .cons (.expr (.meth 16 (.var 0) (.cons (.var 1) .nil))) (.cons (.set 2 (.makeK 1 (.cons (.fld (.var 0) 5) (.cons (.fld (.var 0) 2) .nil)) (.cons (.fld (.var 0) 4) (.cons (.fld (.var 0) 3) .nil)) [.a 0, .a 1, .a 2, .d 0 (.str ['u', 'r', 'd', 'l']), .a 3, .a 4])) (.cons (.fld (.var 2) 1 (.var 1)) (.cons (.ret (.var 2)) .nil)))⟩
def b63_World_ways : Fn := ⟨2, 5, .cons (.set 2 (.meth 9 (.var 0) (.cons (.var 1) .nil))) (.cons (.ret (.bm .join (.str []) (.cons (.lc [3, 4] (.ite (.cmp .is (.var 3) .non) (.var 4) (.call 54 (.cons (.idx (.var 3) (.int 1)) (.cons (.var 4) .nil)))) (.tp (.cons (.nm 3) (.cons (.nm 4) .nil))) (.zip (.cons (.var 2) (.cons (.var 1) .nil))) .nil) .nil))) .nil)⟩
def b64_is_stand : Fn := ⟨2, 2, .cons (.iff (.cmp .is (.var 1) .non) (.cons (.ret (.bl true)) .nil) .nil) (.cons (.iff (.or (.not (.isi (.var 1) [.tuple])) (.cmp .ne (.blt .len (.cons (.var 1) .nil)) (.int 2))) (.cons (.ret (.bl false)) .nil) .nil) (.cons (.ret (.and (.meth 4 (.var 0) (.cons (.idx (.var 1) (.int 0)) .nil)) (.call 37 (.cons (.idx (.var 1) (.int 1)) .nil)))) .nil))⟩
def b65_World_want_stand : Fn := ⟨2, 2, .cons (.iff (.not (.call 64 (.cons (.fld (.var 0) 5) (.cons (.var 1) .nil)))) (.cons (.nvr) .nil) .nil) .nil⟩
end MB
end

section
set_option Elab.async false
set_option linter.all false
set_option maxRecDepth 100000
set_option maxHeartbeats 0
namespace K19
open PySem Mi
def top (i : Nat) : Stmt := PySem.Challenge.pw_onehand_k19_whole_a_walk_is_a_bookless_o.main.body.getD i (.Pass ⟨0, 0, 0, 0⟩)
def mem (i j : Nat) : Stmt := (C8.clsBody (top i)).getD j (.Pass ⟨0, 0, 0, 0⟩)
/-- 14 want_deed(thing): slots 0=thing -/
def F_want_deed : FnD := ⟨⟨("want_deed", none), "want_deed", "want_deed", C8.fnArgs (top 19), C8.fnBody (top 19), C8.fnScope (top 19), [], []⟩, ["thing"], ["thing"], true, []⟩
/-- 37 is_turn(thing): slots 0=thing -/
def F_is_turn : FnD := ⟨⟨("is_turn", none), "is_turn", "is_turn", C8.fnArgs (top 16), C8.fnBody (top 16), C8.fnScope (top 16), [], []⟩, ["thing"], ["thing"], true, []⟩
/-- 53 want_turn(thing): slots 0=thing -/
def F_want_turn : FnD := ⟨⟨("want_turn", none), "want_turn", "want_turn", C8.fnArgs (top 17), C8.fnBody (top 17), C8.fnScope (top 17), [], []⟩, ["thing"], ["thing"], true, []⟩
/-- 54 way(turn, deed): slots 0=turn 1=deed -/
def F_way : FnD := ⟨⟨("way", none), "way", "way", C8.fnArgs (top 20), C8.fnBody (top 20), C8.fnScope (top 20), [], []⟩, ["turn", "deed"], ["turn", "deed"], true, []⟩
/-- 48 want_row(thing): slots 0=thing 1=at 2=deed -/
def F_want_row : FnD := ⟨⟨("want_row", none), "want_row", "want_row", C8.fnArgs (top 18), C8.fnBody (top 18), C8.fnScope (top 18), [], []⟩, ["thing"], ["thing", "at", "deed"], true, []⟩
/-- 55 row_turned(turn, row): slots 0=turn 1=row 2=deed -/
def F_row_turned : FnD := ⟨⟨("row_turned", none), "row_turned", "row_turned", C8.fnArgs (top 21), C8.fnBody (top 21), C8.fnScope (top 21), [], []⟩, ["turn", "row"], ["turn", "row", "deed"], true, []⟩
/-- 56 then(one, other): slots 0=one 1=other -/
def F_then : FnD := ⟨⟨("then", none), "then", "then", C8.fnArgs (top 22), C8.fnBody (top 22), C8.fnScope (top 22), [], []⟩, ["one", "other"], ["one", "other"], true, []⟩
/-- 58 _law_spots_of(_law_stands): slots 0=_law_stands 1=_law_at -/
def F_law_spots_of : FnD := ⟨⟨("_law_spots_of", none), "_law_spots_of", "_law_spots_of", C8.fnArgs (top 53), C8.fnBody (top 53), C8.fnScope (top 53), [], []⟩, ["_law_stands"], ["_law_stands", "_law_at"], true, []⟩
/-- 59 _law_stretch_right(_law_plain, _law_stands, _law_deeds_here, _law_low, _law_high): slots 0=_law_plain 1=_law_stands 2=_law_deeds_here 3=_law_low 4=_law_high 5=_law_spot 6=_law_swing_here 7=_law_at 8=_law_begun -/
def F_law_stretch_right : FnD := ⟨⟨("_law_stretch_right", none), "_law_stretch_right", "_law_stretch_right", C8.fnArgs (top 54), C8.fnBody (top 54), C8.fnScope (top 54), [], []⟩, ["_law_plain", "_law_stands", "_law_deeds_here", "_law_low", "_law_high"], ["_law_plain", "_law_stands", "_law_deeds_here", "_law_low", "_law_high", "_law_spot", "_law_swing_here", "_law_at", "_law_begun"], true, []⟩
/-- 60 _law_right(_law_one_here, _law_plain, _law_m, _law_deeds_here): slots 0=_law_one_here 1=_law_plain 2=_law_m 3=_law_deeds_here 4=_law_stands 5=_law_cuts 6=_law_low 7=_law_high 8=_law_beat 9=_law_sign -/
def F_law_right : FnD := ⟨⟨("_law_right", none), "_law_right", "_law_right", C8.fnArgs (top 55), C8.fnBody (top 55), C8.fnScope (top 55), [], []⟩, ["_law_one_here", "_law_plain", "_law_m", "_law_deeds_here"], ["_law_one_here", "_law_plain", "_law_m", "_law_deeds_here", "_law_stands", "_law_cuts", "_law_low", "_law_high", "_law_beat", "_law_sign"], true, []⟩
/-- 6 _law_mixed(_law_cell, _law_k): slots 0=_law_cell 1=_law_k 2=_law_number -/
def F_law_mixed : FnD := ⟨⟨("_law_mixed", none), "_law_mixed", "_law_mixed", C8.fnArgs (top 43), C8.fnBody (top 43), C8.fnScope (top 43), [], []⟩, ["_law_cell", "_law_k"], ["_law_cell", "_law_k", "_law_number"], true, []⟩
/-- 7 _law_take(_law_source_here, _law_many): slots 0=_law_source_here 1=_law_many 2=_law_found -/
def F_law_take : FnD := ⟨⟨("_law_take", none), "_law_take", "_law_take", C8.fnArgs (top 45), C8.fnBody (top 45), C8.fnScope (top 45), [], []⟩, ["_law_source_here", "_law_many"], ["_law_source_here", "_law_many", "_law_found"], true, []⟩
/-- 8 _law_one(_law_source_here, _law_some): slots 0=_law_source_here 1=_law_some -/
def F_law_one : FnD := ⟨⟨("_law_one", none), "_law_one", "_law_one", C8.fnArgs (top 46), C8.fnBody (top 46), C8.fnScope (top 46), [], []⟩, ["_law_source_here", "_law_some"], ["_law_source_here", "_law_some"], true, []⟩
/-- 43 _law_deeds(_law_source_here, _law_most): slots 0=_law_source_here 1=_law_most 2=_law_k -/
def F_law_deeds : FnD := ⟨⟨("_law_deeds", none), "_law_deeds", "_law_deeds", C8.fnArgs (top 52), C8.fnBody (top 52), C8.fnScope (top 52), [], []⟩, ["_law_source_here", "_law_most"], ["_law_source_here", "_law_most", "_law_k"], true, []⟩
/-- 36 are_wishes(floor, thing): slots 0=floor 1=thing 2=place -/
def F_are_wishes : FnD := ⟨⟨("are_wishes", none), "are_wishes", "are_wishes", C8.fnArgs (top 39), C8.fnBody (top 39), C8.fnScope (top 39), [], []⟩, ["floor", "thing"], ["floor", "thing", "place"], true, []⟩
/-- 38 is_book(floor, thing): slots 0=floor 1=thing 2=letters 3=letter -/
def F_is_book : FnD := ⟨⟨("is_book", none), "is_book", "is_book", C8.fnArgs (top 38), C8.fnBody (top 38), C8.fnScope (top 38), [], []⟩, ["floor", "thing"], ["floor", "thing", "letters", "letter"], true, []⟩
/-- 3 is_text(thing): slots 0=thing 1=sign -/
def F_is_text : FnD := ⟨⟨("is_text", none), "is_text", "is_text", C8.fnArgs (top 32), C8.fnBody (top 32), C8.fnScope (top 32), [], []⟩, ["thing"], ["thing", "sign"], true, []⟩
/-- 4 want_rows(thing): slots 0=thing 1=at 2=text -/
def F_want_rows : FnD := ⟨⟨("want_rows", none), "want_rows", "want_rows", C8.fnArgs (top 33), C8.fnBody (top 33), C8.fnScope (top 33), [], []⟩, ["thing"], ["thing", "at", "text"], true, []⟩
/-- 5 Floor.__init__(self, rows): slots 0=self 1=rows -/
def F_Floor__init : FnD := ⟨⟨("Floor", some "__init__"), "__init__", "Floor.__init__", C8.fnArgs (mem 35 0), C8.fnBody (mem 35 0), C8.fnScope (mem 35 0), [], []⟩, ["self", "rows"], ["self", "rows"], true, []⟩
/-- 39 first_wrong(floor, begin, turn, book, wishes): slots 0=floor 1=begin 2=turn 3=book 4=wishes -/
def F_first_wrong : FnD := ⟨⟨("first_wrong", none), "first_wrong", "first_wrong", C8.fnArgs (top 40), C8.fnBody (top 40), C8.fnScope (top 40), [], []⟩, ["floor", "begin", "turn", "book", "wishes"], ["floor", "begin", "turn", "book", "wishes"], true, []⟩
/-- 40 World.__init__(self, floor, begin, turn, book, wishes): slots 0=self 1=floor 2=begin 3=turn 4=book 5=wishes 6=wrong 7=letter -/
def F_World__init : FnD := ⟨⟨("World", some "__init__"), "__init__", "World.__init__", C8.fnArgs (mem 41 0), C8.fnBody (mem 41 0), C8.fnScope (mem 41 0), [], [("turn", .str "urdl"), ("book", .non), ("wishes", .adr (kwdAt ("World", some "__init__") "wishes"))]⟩, ["self", "floor", "begin", "turn", "book", "wishes"], ["self", "floor", "begin", "turn", "book", "wishes", "wrong", "letter"], false, [.str ['u', 'r', 'd', 'l'], .non, .tup []]⟩
/-- 41 _law_made(_law_m): slots 0=_law_m 1=_law_ground -/
def F_law_made : FnD := ⟨⟨("_law_made", none), "_law_made", "_law_made", C8.fnArgs (top 51), C8.fnBody (top 51), C8.fnScope (top 51), [], []⟩, ["_law_m"], ["_law_m", "_law_ground"], true, []⟩
/-- 0 _law_spots(_law_texts_here, _law_signs): slots 0=_law_texts_here 1=_law_signs 2=_law_found 3=_law_y 4=_law_text 5=_law_x 6=_law_sign -/
def F_law_spots : FnD := ⟨⟨("_law_spots", none), "_law_spots", "_law_spots", C8.fnArgs (top 49), C8.fnBody (top 49), C8.fnScope (top 49), [], []⟩, ["_law_texts_here", "_law_signs"], ["_law_texts_here", "_law_signs", "_law_found", "_law_y", "_law_text", "_law_x", "_law_sign"], true, []⟩
/-- 45 _law_swing(_law_source_here): slots 0=_law_source_here -/
def F_law_swing : FnD := ⟨⟨("_law_swing", none), "_law_swing", "_law_swing", C8.fnArgs (top 48), C8.fnBody (top 48), C8.fnScope (top 48), [], []⟩, ["_law_source_here"], ["_law_source_here"], true, []⟩
/-- 46 _law_plan(_law_source_here, _law_texts_here): slots 0=_law_source_here 1=_law_texts_here 2=_law_some 3=_law_m 4=_law_goals 5=_law_k 6=_law_sign -/
def F_law_plan : FnD := ⟨⟨("_law_plan", none), "_law_plan", "_law_plan", C8.fnArgs (top 50), C8.fnBody (top 50), C8.fnScope (top 50), [], []⟩, ["_law_source_here", "_law_texts_here"], ["_law_source_here", "_law_texts_here", "_law_some", "_law_m", "_law_goals", "_law_k", "_law_sign"], true, []⟩
/-- 9 _law_texts(_law_source_here, _law_high, _law_wide): slots 0=_law_source_here 1=_law_high 2=_law_wide 3=_law_down 4=_law_along 5=_law_signs 6=_law_cells 7=_law_j 8=_law_line 9=_law_k -/
def F_law_texts : FnD := ⟨⟨("_law_texts", none), "_law_texts", "_law_texts", C8.fnArgs (top 47), C8.fnBody (top 47), C8.fnScope (top 47), [], []⟩, ["_law_source_here", "_law_high", "_law_wide"], ["_law_source_here", "_law_high", "_law_wide", "_law_down", "_law_along", "_law_signs", "_law_cells", "_law_j", "_law_line", "_law_k"], true, []⟩
/-- 10 _law_source(_law_cell): slots 0=_law_cell -/
def F_law_source : FnD := ⟨⟨("_law_source", none), "_law_source", "_law_source", C8.fnArgs (top 44), C8.fnBody (top 44), C8.fnScope (top 44), [], []⟩, ["_law_cell"], ["_law_cell"], true, []⟩
/-- 61 law(_law_script): slots 0=_law_script 1=_law_cell 2=_law_source_here 3=_law_m 4=_law_one_here 5=_law_plain 6=_law_k -/
def F_law : FnD := ⟨⟨("law", none), "law", "law", C8.fnArgs (top 56), C8.fnBody (top 56), C8.fnScope (top 56), [], []⟩, ["_law_script"], ["_law_script", "_law_cell", "_law_source_here", "_law_m", "_law_one_here", "_law_plain", "_law_k"], true, []⟩
/-- 62 World.begun(self, stand): slots 0=self 1=stand 2=found -/
def F_World_begun : FnD := ⟨⟨("World", some "begun"), "begun", "World.begun", C8.fnArgs (mem 41 7), C8.fnBody (mem 41 7), C8.fnScope (mem 41 7), [], []⟩, ["self", "stand"], ["self", "stand", "found"], true, []⟩
/-- 49 World.walk(self, row): slots 0=self 1=row -/
def F_World_walk : FnD := ⟨⟨("World", some "walk"), "walk", "World.walk", C8.fnArgs (mem 41 11), C8.fnBody (mem 41 11), C8.fnScope (mem 41 11), [], []⟩, ["self", "row"], ["self", "row"], true, []⟩
/-- 50 World.comings(self, row): slots 0=self 1=row 2=stands 3=found 4=beat 5=ahead 6=now -/
def F_World_comings : FnD := ⟨⟨("World", some "comings"), "comings", "World.comings", C8.fnArgs (mem 41 12), C8.fnBody (mem 41 12), C8.fnScope (mem 41 12), [], []⟩, ["self", "row"], ["self", "row", "stands", "found", "beat", "ahead", "now"], true, []⟩
/-- 63 World.ways(self, row): slots 0=self 1=row 2=stands 3=stand 4=deed -/
def F_World_ways : FnD := ⟨⟨("World", some "ways"), "ways", "World.ways", C8.fnArgs (mem 41 13), C8.fnBody (mem 41 13), C8.fnScope (mem 41 13), [], []⟩, ["self", "row"], ["self", "row", "stands", "stand", "deed"], true, []⟩
/-- 16 is_whole(thing): slots 0=thing -/
def F_is_whole : FnD := ⟨⟨("is_whole", none), "is_whole", "is_whole", C8.fnArgs (top 10), C8.fnBody (top 10), C8.fnScope (top 10), [], []⟩, ["thing"], ["thing"], true, []⟩
/-- 17 is_from(thing, least, most): slots 0=thing 1=least 2=most -/
def F_is_from : FnD := ⟨⟨("is_from", none), "is_from", "is_from", C8.fnArgs (top 11), C8.fnBody (top 11), C8.fnScope (top 11), [], []⟩, ["thing", "least", "most"], ["thing", "least", "most"], true, []⟩
/-- 18 is_place(thing, rows, columns): slots 0=thing 1=rows 2=columns 3=row 4=column -/
def F_is_place : FnD := ⟨⟨("is_place", none), "is_place", "is_place", C8.fnArgs (top 12), C8.fnBody (top 12), C8.fnScope (top 12), [], []⟩, ["thing", "rows", "columns"], ["thing", "rows", "columns", "row", "column"], true, []⟩
/-- 19 Floor.has(self, thing): slots 0=self 1=thing 2=rows 3=columns -/
def F_Floor_has : FnD := ⟨⟨("Floor", some "has"), "has", "Floor.has", C8.fnArgs (mem 35 5), C8.fnBody (mem 35 5), C8.fnScope (mem 35 5), [], []⟩, ["self", "thing"], ["self", "thing", "rows", "columns"], true, []⟩
/-- 20 Floor.seen(self, place): slots 0=self 1=place -/
def F_Floor_seen : FnD := ⟨⟨("Floor", some "seen"), "seen", "Floor.seen", C8.fnArgs (mem 35 6), C8.fnBody (mem 35 6), C8.fnScope (mem 35 6), [], []⟩, ["self", "place"], ["self", "place"], true, []⟩
/-- 51 Floor.letters(self): slots 0=self 1=letter 2=text -/
def F_Floor_letters : FnD := ⟨⟨("Floor", some "letters"), "letters", "Floor.letters", C8.fnArgs (mem 35 8), C8.fnBody (mem 35 8), C8.fnScope (mem 35 8), [], []⟩, ["self"], ["self", "letter", "text"], true, []⟩
/-- 34 Floor.open_places(self): slots 0=self 1=place -/
def F_Floor_open_places : FnD := ⟨⟨("Floor", some "open_places"), "open_places", "Floor.open_places", C8.fnArgs (mem 35 10), C8.fnBody (mem 35 10), C8.fnScope (mem 35 10), [], []⟩, ["self"], ["self", "place"], true, []⟩
/-- 64 is_stand(floor, thing): slots 0=floor 1=thing -/
def F_is_stand : FnD := ⟨⟨("is_stand", none), "is_stand", "is_stand", C8.fnArgs (top 37), C8.fnBody (top 37), C8.fnScope (top 37), [], []⟩, ["floor", "thing"], ["floor", "thing"], true, []⟩
/-- 65 World.want_stand(self, thing): slots 0=self 1=thing -/
def F_World_want_stand : FnD := ⟨⟨("World", some "want_stand"), "want_stand", "World.want_stand", C8.fnArgs (mem 41 6), C8.fnBody (mem 41 6), C8.fnScope (mem 41 6), [], []⟩, ["self", "thing"], ["self", "thing"], true, []⟩
/-- 52 World.gone(self, stand, row): slots 0=self 1=stand 2=row 3=found 4=deed -/
def F_World_gone : FnD := ⟨⟨("World", some "gone"), "gone", "World.gone", C8.fnArgs (mem 41 10), C8.fnBody (mem 41 10), C8.fnScope (mem 41 10), [], []⟩, ["self", "stand", "row"], ["self", "stand", "row", "found", "deed"], true, []⟩
/-- 22 Floor.size(self): slots 0=self -/
def F_Floor_size : FnD := ⟨⟨("Floor", some "size"), "size", "Floor.size", C8.fnArgs (mem 35 4), C8.fnBody (mem 35 4), C8.fnScope (mem 35 4), [], []⟩, ["self"], ["self"], true, []⟩
/-- 35 Floor.places(self): slots 0=self 1=rows 2=columns 3=row 4=column -/
def F_Floor_places : FnD := ⟨⟨("Floor", some "places"), "places", "Floor.places", C8.fnArgs (mem 35 9), C8.fnBody (mem 35 9), C8.fnScope (mem 35 9), [], []⟩, ["self"], ["self", "rows", "columns", "row", "column"], true, []⟩
/-- 21 Floor.can_stand(self, thing): slots 0=self 1=thing -/
def F_Floor_can_stand : FnD := ⟨⟨("Floor", some "can_stand"), "can_stand", "Floor.can_stand", C8.fnArgs (mem 35 11), C8.fnBody (mem 35 11), C8.fnScope (mem 35 11), [], []⟩, ["self", "thing"], ["self", "thing"], true, []⟩
/-- 57 World.behind(self, stand, deed): slots 0=self 1=stand 2=deed 3=place 4=turn 5=there 6=letter -/
def F_World_behind : FnD := ⟨⟨("World", some "behind"), "behind", "World.behind", C8.fnArgs (mem 41 8), C8.fnBody (mem 41 8), C8.fnScope (mem 41 8), [], []⟩, ["self", "stand", "deed"], ["self", "stand", "deed", "place", "turn", "there", "letter"], true, []⟩
/-- 13 next_to(place, way): slots 0=place 1=way 2=down 3=along -/
def F_next_to : FnD := ⟨⟨("next_to", none), "next_to", "next_to", C8.fnArgs (top 34), C8.fnBody (top 34), C8.fnScope (top 34), [], []⟩, ["place", "way"], ["place", "way", "down", "along"], true, []⟩
/-- 15 Floor.goes(self, place, way): slots 0=self 1=place 2=way 3=here 4=there -/
def F_Floor_goes : FnD := ⟨⟨("Floor", some "goes"), "goes", "Floor.goes", C8.fnArgs (mem 35 12), C8.fnBody (mem 35 12), C8.fnScope (mem 35 12), [], []⟩, ["self", "place", "way"], ["self", "place", "way", "here", "there"], true, []⟩
/-- 12 Floor.sign(self, place): slots 0=self 1=place -/
def F_Floor_sign : FnD := ⟨⟨("Floor", some "sign"), "sign", "Floor.sign", C8.fnArgs (mem 35 7), C8.fnBody (mem 35 7), C8.fnScope (mem 35 7), [], []⟩, ["self", "place"], ["self", "place"], true, []⟩
def nms : Nms := ⟨[(1, "World"), (0, "Floor")], ["goes", "sign", "seen", "has", "can_stand", "size", "rows", "open_places", "places", "walk", "letters", "comings", "gone", "behind", "begun", "ways", "want_stand"], ["texts", "first", "opening", "goals", "pages", "ground"], [(6, "DEEDS"), (8, "TURNS"), (0, "SIGNS"), (1, "MOST"), (9, "LETTERS"), (3, "WALL"), (7, "OPEN"), (4, "ICE"), (2, "PIT"), (5, "STEPS")], []⟩
def tab : Tab := ⟨[(14, MB.b14_want_deed), (37, MB.b37_is_turn), (53, MB.b53_want_turn), (54, MB.b54_way), (48, MB.b48_want_row), (55, MB.b55_row_turned), (56, MB.b56_then), (58, MB.b58_spots_of), (59, MB.b59_stretch_right), (60, MB.b60_right), (6, MB.b6_mixed), (7, MB.b7_take), (8, MB.b8_one), (43, MB.b43_deeds), (36, MB.b36_are_wishes), (38, MB.b38_is_book), (3, MB.b3_is_text), (4, MB.b4_want_rows), (5, MB.b5_Floor__init), (39, MB.b39_first_wrong), (40, MB.b40_World__init), (41, MB.b41_made), (0, MB.b0_spots), (45, MB.b45_swing), (46, MB.b46_plan), (9, MB.b9_texts), (10, MB.b10_source), (61, MB.b61_law), (62, MB.b62_World_begun), (49, MB.b49_World_walk), (50, MB.b50_World_comings), (63, MB.b63_World_ways), (16, MB.b16_is_whole), (17, MB.b17_is_from), (18, MB.b18_is_place), (19, MB.b19_Floor_has), (20, MB.b20_Floor_seen), (51, MB.b51_Floor_letters), (34, MB.b34_Floor_open_places), (64, MB.b64_is_stand), (65, MB.b65_World_want_stand), (52, MB.b52_World_gone), (22, MB.b22_Floor_size), (35, MB.b35_Floor_places), (21, MB.b21_Floor_can_stand), (57, MB.b57_World_behind), (13, MB.b13_next_to), (15, MB.b15_Floor_goes), (12, MB.b12_Floor_sign)], [(1, ⟨[(16, 65), (14, 62), (13, 57), (12, 52), (9, 49), (11, 50), (15, 63)], 40⟩), (0, ⟨[(5, 22), (3, 19), (2, 20), (1, 12), (10, 51), (8, 35), (7, 34), (4, 21), (0, 15)], 5⟩)], [(6, .str ['u', 'r', 'd', 'l']), (8, .tup [.str ['u', 'r', 'd', 'l'], .str ['r', 'd', 'l', 'u'], .str ['d', 'l', 'u', 'r'], .str ['l', 'u', 'r', 'd'], .str ['u', 'l', 'd', 'r'], .str ['d', 'r', 'u', 'l'], .str ['l', 'd', 'r', 'u'], .str ['r', 'u', 'l', 'd']]), (0, .str ['#', '~', 'x', '.', 'a', 'b', 'c', 'd']), (1, .int (6)), (9, .str ['a', 'b', 'c', 'd']), (3, .str ['#']), (7, .str ['.', 'a', 'b', 'c', 'd']), (4, .str ['~']), (2, .str ['x']), (5, .tup [.tup [.int (-1), .int (0)], .tup [.int (0), .int (1)], .tup [.int (1), .int (0)], .tup [.int (0), .int (-1)]])]⟩
def KS : List Shp := [⟨40, 3, [], [.a 0, .a 1, .a 2, .d 0 (.str ['u', 'r', 'd', 'l']), .d 1 (.non), .d 2 (.tup [])]⟩, ⟨40, 3, ["turn", "book", "wishes"], [.a 0, .a 1, .a 2, .a 3, .a 4, .a 5]⟩, ⟨40, 3, ["book", "wishes"], [.a 0, .a 1, .a 2, .d 0 (.str ['u', 'r', 'd', 'l']), .a 3, .a 4]⟩]
def G : Dat := ⟨nms, tab, [(14, F_want_deed), (37, F_is_turn), (53, F_want_turn), (54, F_way), (48, F_want_row), (55, F_row_turned), (56, F_then), (58, F_law_spots_of), (59, F_law_stretch_right), (60, F_law_right), (6, F_law_mixed), (7, F_law_take), (8, F_law_one), (43, F_law_deeds), (36, F_are_wishes), (38, F_is_book), (3, F_is_text), (4, F_want_rows), (5, F_Floor__init), (39, F_first_wrong), (40, F_World__init), (41, F_law_made), (0, F_law_spots), (45, F_law_swing), (46, F_law_plan), (9, F_law_texts), (10, F_law_source), (61, F_law), (62, F_World_begun), (49, F_World_walk), (50, F_World_comings), (63, F_World_ways), (16, F_is_whole), (17, F_is_from), (18, F_is_place), (19, F_Floor_has), (20, F_Floor_seen), (51, F_Floor_letters), (34, F_Floor_open_places), (64, F_is_stand), (65, F_World_want_stand), (52, F_World_gone), (22, F_Floor_size), (35, F_Floor_places), (21, F_Floor_can_stand), (57, F_World_behind), (13, F_next_to), (15, F_Floor_goes), (12, F_Floor_sign)], KS⟩
theorem bi_F_want_deed (_ : F_want_deed.pl = true) (kV doc pm : Value) (an : Option Addr) (cdv ct : Value) (us : List Value) (hl : us.length = F_want_deed.ps.length) : bindArgs (PySem.W.fnOf F_want_deed.d.name F_want_deed.d.qual F_want_deed.d.params F_want_deed.d.body F_want_deed.d.scope .none kV doc pm an cdv ct) ⟨us, []⟩ = pure (F_want_deed.ps.zip us) := match us, hl with | [_], _ => rfl
theorem bi_F_is_turn (_ : F_is_turn.pl = true) (kV doc pm : Value) (an : Option Addr) (cdv ct : Value) (us : List Value) (hl : us.length = F_is_turn.ps.length) : bindArgs (PySem.W.fnOf F_is_turn.d.name F_is_turn.d.qual F_is_turn.d.params F_is_turn.d.body F_is_turn.d.scope .none kV doc pm an cdv ct) ⟨us, []⟩ = pure (F_is_turn.ps.zip us) := match us, hl with | [_], _ => rfl
theorem bi_F_want_turn (_ : F_want_turn.pl = true) (kV doc pm : Value) (an : Option Addr) (cdv ct : Value) (us : List Value) (hl : us.length = F_want_turn.ps.length) : bindArgs (PySem.W.fnOf F_want_turn.d.name F_want_turn.d.qual F_want_turn.d.params F_want_turn.d.body F_want_turn.d.scope .none kV doc pm an cdv ct) ⟨us, []⟩ = pure (F_want_turn.ps.zip us) := match us, hl with | [_], _ => rfl
theorem bi_F_way (_ : F_way.pl = true) (kV doc pm : Value) (an : Option Addr) (cdv ct : Value) (us : List Value) (hl : us.length = F_way.ps.length) : bindArgs (PySem.W.fnOf F_way.d.name F_way.d.qual F_way.d.params F_way.d.body F_way.d.scope .none kV doc pm an cdv ct) ⟨us, []⟩ = pure (F_way.ps.zip us) := match us, hl with | [_, _], _ => rfl
theorem bi_F_want_row (_ : F_want_row.pl = true) (kV doc pm : Value) (an : Option Addr) (cdv ct : Value) (us : List Value) (hl : us.length = F_want_row.ps.length) : bindArgs (PySem.W.fnOf F_want_row.d.name F_want_row.d.qual F_want_row.d.params F_want_row.d.body F_want_row.d.scope .none kV doc pm an cdv ct) ⟨us, []⟩ = pure (F_want_row.ps.zip us) := match us, hl with | [_], _ => rfl
theorem bi_F_row_turned (_ : F_row_turned.pl = true) (kV doc pm : Value) (an : Option Addr) (cdv ct : Value) (us : List Value) (hl : us.length = F_row_turned.ps.length) : bindArgs (PySem.W.fnOf F_row_turned.d.name F_row_turned.d.qual F_row_turned.d.params F_row_turned.d.body F_row_turned.d.scope .none kV doc pm an cdv ct) ⟨us, []⟩ = pure (F_row_turned.ps.zip us) := match us, hl with | [_, _], _ => rfl
theorem bi_F_then (_ : F_then.pl = true) (kV doc pm : Value) (an : Option Addr) (cdv ct : Value) (us : List Value) (hl : us.length = F_then.ps.length) : bindArgs (PySem.W.fnOf F_then.d.name F_then.d.qual F_then.d.params F_then.d.body F_then.d.scope .none kV doc pm an cdv ct) ⟨us, []⟩ = pure (F_then.ps.zip us) := match us, hl with | [_, _], _ => rfl
theorem bi_F_law_spots_of (_ : F_law_spots_of.pl = true) (kV doc pm : Value) (an : Option Addr) (cdv ct : Value) (us : List Value) (hl : us.length = F_law_spots_of.ps.length) : bindArgs (PySem.W.fnOf F_law_spots_of.d.name F_law_spots_of.d.qual F_law_spots_of.d.params F_law_spots_of.d.body F_law_spots_of.d.scope .none kV doc pm an cdv ct) ⟨us, []⟩ = pure (F_law_spots_of.ps.zip us) := match us, hl with | [_], _ => rfl
theorem bi_F_law_stretch_right (_ : F_law_stretch_right.pl = true) (kV doc pm : Value) (an : Option Addr) (cdv ct : Value) (us : List Value) (hl : us.length = F_law_stretch_right.ps.length) : bindArgs (PySem.W.fnOf F_law_stretch_right.d.name F_law_stretch_right.d.qual F_law_stretch_right.d.params F_law_stretch_right.d.body F_law_stretch_right.d.scope .none kV doc pm an cdv ct) ⟨us, []⟩ = pure (F_law_stretch_right.ps.zip us) := match us, hl with | [_, _, _, _, _], _ => rfl
theorem bi_F_law_right (_ : F_law_right.pl = true) (kV doc pm : Value) (an : Option Addr) (cdv ct : Value) (us : List Value) (hl : us.length = F_law_right.ps.length) : bindArgs (PySem.W.fnOf F_law_right.d.name F_law_right.d.qual F_law_right.d.params F_law_right.d.body F_law_right.d.scope .none kV doc pm an cdv ct) ⟨us, []⟩ = pure (F_law_right.ps.zip us) := match us, hl with | [_, _, _, _], _ => rfl
theorem bi_F_law_mixed (_ : F_law_mixed.pl = true) (kV doc pm : Value) (an : Option Addr) (cdv ct : Value) (us : List Value) (hl : us.length = F_law_mixed.ps.length) : bindArgs (PySem.W.fnOf F_law_mixed.d.name F_law_mixed.d.qual F_law_mixed.d.params F_law_mixed.d.body F_law_mixed.d.scope .none kV doc pm an cdv ct) ⟨us, []⟩ = pure (F_law_mixed.ps.zip us) := match us, hl with | [_, _], _ => rfl
theorem bi_F_law_take (_ : F_law_take.pl = true) (kV doc pm : Value) (an : Option Addr) (cdv ct : Value) (us : List Value) (hl : us.length = F_law_take.ps.length) : bindArgs (PySem.W.fnOf F_law_take.d.name F_law_take.d.qual F_law_take.d.params F_law_take.d.body F_law_take.d.scope .none kV doc pm an cdv ct) ⟨us, []⟩ = pure (F_law_take.ps.zip us) := match us, hl with | [_, _], _ => rfl
theorem bi_F_law_one (_ : F_law_one.pl = true) (kV doc pm : Value) (an : Option Addr) (cdv ct : Value) (us : List Value) (hl : us.length = F_law_one.ps.length) : bindArgs (PySem.W.fnOf F_law_one.d.name F_law_one.d.qual F_law_one.d.params F_law_one.d.body F_law_one.d.scope .none kV doc pm an cdv ct) ⟨us, []⟩ = pure (F_law_one.ps.zip us) := match us, hl with | [_, _], _ => rfl
theorem bi_F_law_deeds (_ : F_law_deeds.pl = true) (kV doc pm : Value) (an : Option Addr) (cdv ct : Value) (us : List Value) (hl : us.length = F_law_deeds.ps.length) : bindArgs (PySem.W.fnOf F_law_deeds.d.name F_law_deeds.d.qual F_law_deeds.d.params F_law_deeds.d.body F_law_deeds.d.scope .none kV doc pm an cdv ct) ⟨us, []⟩ = pure (F_law_deeds.ps.zip us) := match us, hl with | [_, _], _ => rfl
theorem bi_F_are_wishes (_ : F_are_wishes.pl = true) (kV doc pm : Value) (an : Option Addr) (cdv ct : Value) (us : List Value) (hl : us.length = F_are_wishes.ps.length) : bindArgs (PySem.W.fnOf F_are_wishes.d.name F_are_wishes.d.qual F_are_wishes.d.params F_are_wishes.d.body F_are_wishes.d.scope .none kV doc pm an cdv ct) ⟨us, []⟩ = pure (F_are_wishes.ps.zip us) := match us, hl with | [_, _], _ => rfl
theorem bi_F_is_book (_ : F_is_book.pl = true) (kV doc pm : Value) (an : Option Addr) (cdv ct : Value) (us : List Value) (hl : us.length = F_is_book.ps.length) : bindArgs (PySem.W.fnOf F_is_book.d.name F_is_book.d.qual F_is_book.d.params F_is_book.d.body F_is_book.d.scope .none kV doc pm an cdv ct) ⟨us, []⟩ = pure (F_is_book.ps.zip us) := match us, hl with | [_, _], _ => rfl
theorem bi_F_is_text (_ : F_is_text.pl = true) (kV doc pm : Value) (an : Option Addr) (cdv ct : Value) (us : List Value) (hl : us.length = F_is_text.ps.length) : bindArgs (PySem.W.fnOf F_is_text.d.name F_is_text.d.qual F_is_text.d.params F_is_text.d.body F_is_text.d.scope .none kV doc pm an cdv ct) ⟨us, []⟩ = pure (F_is_text.ps.zip us) := match us, hl with | [_], _ => rfl
theorem bi_F_want_rows (_ : F_want_rows.pl = true) (kV doc pm : Value) (an : Option Addr) (cdv ct : Value) (us : List Value) (hl : us.length = F_want_rows.ps.length) : bindArgs (PySem.W.fnOf F_want_rows.d.name F_want_rows.d.qual F_want_rows.d.params F_want_rows.d.body F_want_rows.d.scope .none kV doc pm an cdv ct) ⟨us, []⟩ = pure (F_want_rows.ps.zip us) := match us, hl with | [_], _ => rfl
theorem bi_F_Floor__init (_ : F_Floor__init.pl = true) (kV doc pm : Value) (an : Option Addr) (cdv ct : Value) (us : List Value) (hl : us.length = F_Floor__init.ps.length) : bindArgs (PySem.W.fnOf F_Floor__init.d.name F_Floor__init.d.qual F_Floor__init.d.params F_Floor__init.d.body F_Floor__init.d.scope .none kV doc pm an cdv ct) ⟨us, []⟩ = pure (F_Floor__init.ps.zip us) := match us, hl with | [_, _], _ => rfl
theorem bi_F_first_wrong (_ : F_first_wrong.pl = true) (kV doc pm : Value) (an : Option Addr) (cdv ct : Value) (us : List Value) (hl : us.length = F_first_wrong.ps.length) : bindArgs (PySem.W.fnOf F_first_wrong.d.name F_first_wrong.d.qual F_first_wrong.d.params F_first_wrong.d.body F_first_wrong.d.scope .none kV doc pm an cdv ct) ⟨us, []⟩ = pure (F_first_wrong.ps.zip us) := match us, hl with | [_, _, _, _, _], _ => rfl
theorem bi_F_World__init : BindOk F_World__init := fun h => by cases h
theorem bi_F_law_made (_ : F_law_made.pl = true) (kV doc pm : Value) (an : Option Addr) (cdv ct : Value) (us : List Value) (hl : us.length = F_law_made.ps.length) : bindArgs (PySem.W.fnOf F_law_made.d.name F_law_made.d.qual F_law_made.d.params F_law_made.d.body F_law_made.d.scope .none kV doc pm an cdv ct) ⟨us, []⟩ = pure (F_law_made.ps.zip us) := match us, hl with | [_], _ => rfl
theorem bi_F_law_spots (_ : F_law_spots.pl = true) (kV doc pm : Value) (an : Option Addr) (cdv ct : Value) (us : List Value) (hl : us.length = F_law_spots.ps.length) : bindArgs (PySem.W.fnOf F_law_spots.d.name F_law_spots.d.qual F_law_spots.d.params F_law_spots.d.body F_law_spots.d.scope .none kV doc pm an cdv ct) ⟨us, []⟩ = pure (F_law_spots.ps.zip us) := match us, hl with | [_, _], _ => rfl
theorem bi_F_law_swing (_ : F_law_swing.pl = true) (kV doc pm : Value) (an : Option Addr) (cdv ct : Value) (us : List Value) (hl : us.length = F_law_swing.ps.length) : bindArgs (PySem.W.fnOf F_law_swing.d.name F_law_swing.d.qual F_law_swing.d.params F_law_swing.d.body F_law_swing.d.scope .none kV doc pm an cdv ct) ⟨us, []⟩ = pure (F_law_swing.ps.zip us) := match us, hl with | [_], _ => rfl
theorem bi_F_law_plan (_ : F_law_plan.pl = true) (kV doc pm : Value) (an : Option Addr) (cdv ct : Value) (us : List Value) (hl : us.length = F_law_plan.ps.length) : bindArgs (PySem.W.fnOf F_law_plan.d.name F_law_plan.d.qual F_law_plan.d.params F_law_plan.d.body F_law_plan.d.scope .none kV doc pm an cdv ct) ⟨us, []⟩ = pure (F_law_plan.ps.zip us) := match us, hl with | [_, _], _ => rfl
theorem bi_F_law_texts (_ : F_law_texts.pl = true) (kV doc pm : Value) (an : Option Addr) (cdv ct : Value) (us : List Value) (hl : us.length = F_law_texts.ps.length) : bindArgs (PySem.W.fnOf F_law_texts.d.name F_law_texts.d.qual F_law_texts.d.params F_law_texts.d.body F_law_texts.d.scope .none kV doc pm an cdv ct) ⟨us, []⟩ = pure (F_law_texts.ps.zip us) := match us, hl with | [_, _, _], _ => rfl
theorem bi_F_law_source (_ : F_law_source.pl = true) (kV doc pm : Value) (an : Option Addr) (cdv ct : Value) (us : List Value) (hl : us.length = F_law_source.ps.length) : bindArgs (PySem.W.fnOf F_law_source.d.name F_law_source.d.qual F_law_source.d.params F_law_source.d.body F_law_source.d.scope .none kV doc pm an cdv ct) ⟨us, []⟩ = pure (F_law_source.ps.zip us) := match us, hl with | [_], _ => rfl
theorem bi_F_law (_ : F_law.pl = true) (kV doc pm : Value) (an : Option Addr) (cdv ct : Value) (us : List Value) (hl : us.length = F_law.ps.length) : bindArgs (PySem.W.fnOf F_law.d.name F_law.d.qual F_law.d.params F_law.d.body F_law.d.scope .none kV doc pm an cdv ct) ⟨us, []⟩ = pure (F_law.ps.zip us) := match us, hl with | [_], _ => rfl
theorem bi_F_World_begun (_ : F_World_begun.pl = true) (kV doc pm : Value) (an : Option Addr) (cdv ct : Value) (us : List Value) (hl : us.length = F_World_begun.ps.length) : bindArgs (PySem.W.fnOf F_World_begun.d.name F_World_begun.d.qual F_World_begun.d.params F_World_begun.d.body F_World_begun.d.scope .none kV doc pm an cdv ct) ⟨us, []⟩ = pure (F_World_begun.ps.zip us) := match us, hl with | [_, _], _ => rfl
theorem bi_F_World_walk (_ : F_World_walk.pl = true) (kV doc pm : Value) (an : Option Addr) (cdv ct : Value) (us : List Value) (hl : us.length = F_World_walk.ps.length) : bindArgs (PySem.W.fnOf F_World_walk.d.name F_World_walk.d.qual F_World_walk.d.params F_World_walk.d.body F_World_walk.d.scope .none kV doc pm an cdv ct) ⟨us, []⟩ = pure (F_World_walk.ps.zip us) := match us, hl with | [_, _], _ => rfl
theorem bi_F_World_comings (_ : F_World_comings.pl = true) (kV doc pm : Value) (an : Option Addr) (cdv ct : Value) (us : List Value) (hl : us.length = F_World_comings.ps.length) : bindArgs (PySem.W.fnOf F_World_comings.d.name F_World_comings.d.qual F_World_comings.d.params F_World_comings.d.body F_World_comings.d.scope .none kV doc pm an cdv ct) ⟨us, []⟩ = pure (F_World_comings.ps.zip us) := match us, hl with | [_, _], _ => rfl
theorem bi_F_World_ways (_ : F_World_ways.pl = true) (kV doc pm : Value) (an : Option Addr) (cdv ct : Value) (us : List Value) (hl : us.length = F_World_ways.ps.length) : bindArgs (PySem.W.fnOf F_World_ways.d.name F_World_ways.d.qual F_World_ways.d.params F_World_ways.d.body F_World_ways.d.scope .none kV doc pm an cdv ct) ⟨us, []⟩ = pure (F_World_ways.ps.zip us) := match us, hl with | [_, _], _ => rfl
theorem bi_F_is_whole (_ : F_is_whole.pl = true) (kV doc pm : Value) (an : Option Addr) (cdv ct : Value) (us : List Value) (hl : us.length = F_is_whole.ps.length) : bindArgs (PySem.W.fnOf F_is_whole.d.name F_is_whole.d.qual F_is_whole.d.params F_is_whole.d.body F_is_whole.d.scope .none kV doc pm an cdv ct) ⟨us, []⟩ = pure (F_is_whole.ps.zip us) := match us, hl with | [_], _ => rfl
theorem bi_F_is_from (_ : F_is_from.pl = true) (kV doc pm : Value) (an : Option Addr) (cdv ct : Value) (us : List Value) (hl : us.length = F_is_from.ps.length) : bindArgs (PySem.W.fnOf F_is_from.d.name F_is_from.d.qual F_is_from.d.params F_is_from.d.body F_is_from.d.scope .none kV doc pm an cdv ct) ⟨us, []⟩ = pure (F_is_from.ps.zip us) := match us, hl with | [_, _, _], _ => rfl
theorem bi_F_is_place (_ : F_is_place.pl = true) (kV doc pm : Value) (an : Option Addr) (cdv ct : Value) (us : List Value) (hl : us.length = F_is_place.ps.length) : bindArgs (PySem.W.fnOf F_is_place.d.name F_is_place.d.qual F_is_place.d.params F_is_place.d.body F_is_place.d.scope .none kV doc pm an cdv ct) ⟨us, []⟩ = pure (F_is_place.ps.zip us) := match us, hl with | [_, _, _], _ => rfl
theorem bi_F_Floor_has (_ : F_Floor_has.pl = true) (kV doc pm : Value) (an : Option Addr) (cdv ct : Value) (us : List Value) (hl : us.length = F_Floor_has.ps.length) : bindArgs (PySem.W.fnOf F_Floor_has.d.name F_Floor_has.d.qual F_Floor_has.d.params F_Floor_has.d.body F_Floor_has.d.scope .none kV doc pm an cdv ct) ⟨us, []⟩ = pure (F_Floor_has.ps.zip us) := match us, hl with | [_, _], _ => rfl
theorem bi_F_Floor_seen (_ : F_Floor_seen.pl = true) (kV doc pm : Value) (an : Option Addr) (cdv ct : Value) (us : List Value) (hl : us.length = F_Floor_seen.ps.length) : bindArgs (PySem.W.fnOf F_Floor_seen.d.name F_Floor_seen.d.qual F_Floor_seen.d.params F_Floor_seen.d.body F_Floor_seen.d.scope .none kV doc pm an cdv ct) ⟨us, []⟩ = pure (F_Floor_seen.ps.zip us) := match us, hl with | [_, _], _ => rfl
theorem bi_F_Floor_letters (_ : F_Floor_letters.pl = true) (kV doc pm : Value) (an : Option Addr) (cdv ct : Value) (us : List Value) (hl : us.length = F_Floor_letters.ps.length) : bindArgs (PySem.W.fnOf F_Floor_letters.d.name F_Floor_letters.d.qual F_Floor_letters.d.params F_Floor_letters.d.body F_Floor_letters.d.scope .none kV doc pm an cdv ct) ⟨us, []⟩ = pure (F_Floor_letters.ps.zip us) := match us, hl with | [_], _ => rfl
theorem bi_F_Floor_open_places (_ : F_Floor_open_places.pl = true) (kV doc pm : Value) (an : Option Addr) (cdv ct : Value) (us : List Value) (hl : us.length = F_Floor_open_places.ps.length) : bindArgs (PySem.W.fnOf F_Floor_open_places.d.name F_Floor_open_places.d.qual F_Floor_open_places.d.params F_Floor_open_places.d.body F_Floor_open_places.d.scope .none kV doc pm an cdv ct) ⟨us, []⟩ = pure (F_Floor_open_places.ps.zip us) := match us, hl with | [_], _ => rfl
theorem bi_F_is_stand (_ : F_is_stand.pl = true) (kV doc pm : Value) (an : Option Addr) (cdv ct : Value) (us : List Value) (hl : us.length = F_is_stand.ps.length) : bindArgs (PySem.W.fnOf F_is_stand.d.name F_is_stand.d.qual F_is_stand.d.params F_is_stand.d.body F_is_stand.d.scope .none kV doc pm an cdv ct) ⟨us, []⟩ = pure (F_is_stand.ps.zip us) := match us, hl with | [_, _], _ => rfl
theorem bi_F_World_want_stand (_ : F_World_want_stand.pl = true) (kV doc pm : Value) (an : Option Addr) (cdv ct : Value) (us : List Value) (hl : us.length = F_World_want_stand.ps.length) : bindArgs (PySem.W.fnOf F_World_want_stand.d.name F_World_want_stand.d.qual F_World_want_stand.d.params F_World_want_stand.d.body F_World_want_stand.d.scope .none kV doc pm an cdv ct) ⟨us, []⟩ = pure (F_World_want_stand.ps.zip us) := match us, hl with | [_, _], _ => rfl
theorem bi_F_World_gone (_ : F_World_gone.pl = true) (kV doc pm : Value) (an : Option Addr) (cdv ct : Value) (us : List Value) (hl : us.length = F_World_gone.ps.length) : bindArgs (PySem.W.fnOf F_World_gone.d.name F_World_gone.d.qual F_World_gone.d.params F_World_gone.d.body F_World_gone.d.scope .none kV doc pm an cdv ct) ⟨us, []⟩ = pure (F_World_gone.ps.zip us) := match us, hl with | [_, _, _], _ => rfl
theorem bi_F_Floor_size (_ : F_Floor_size.pl = true) (kV doc pm : Value) (an : Option Addr) (cdv ct : Value) (us : List Value) (hl : us.length = F_Floor_size.ps.length) : bindArgs (PySem.W.fnOf F_Floor_size.d.name F_Floor_size.d.qual F_Floor_size.d.params F_Floor_size.d.body F_Floor_size.d.scope .none kV doc pm an cdv ct) ⟨us, []⟩ = pure (F_Floor_size.ps.zip us) := match us, hl with | [_], _ => rfl
theorem bi_F_Floor_places (_ : F_Floor_places.pl = true) (kV doc pm : Value) (an : Option Addr) (cdv ct : Value) (us : List Value) (hl : us.length = F_Floor_places.ps.length) : bindArgs (PySem.W.fnOf F_Floor_places.d.name F_Floor_places.d.qual F_Floor_places.d.params F_Floor_places.d.body F_Floor_places.d.scope .none kV doc pm an cdv ct) ⟨us, []⟩ = pure (F_Floor_places.ps.zip us) := match us, hl with | [_], _ => rfl
theorem bi_F_Floor_can_stand (_ : F_Floor_can_stand.pl = true) (kV doc pm : Value) (an : Option Addr) (cdv ct : Value) (us : List Value) (hl : us.length = F_Floor_can_stand.ps.length) : bindArgs (PySem.W.fnOf F_Floor_can_stand.d.name F_Floor_can_stand.d.qual F_Floor_can_stand.d.params F_Floor_can_stand.d.body F_Floor_can_stand.d.scope .none kV doc pm an cdv ct) ⟨us, []⟩ = pure (F_Floor_can_stand.ps.zip us) := match us, hl with | [_, _], _ => rfl
theorem bi_F_World_behind (_ : F_World_behind.pl = true) (kV doc pm : Value) (an : Option Addr) (cdv ct : Value) (us : List Value) (hl : us.length = F_World_behind.ps.length) : bindArgs (PySem.W.fnOf F_World_behind.d.name F_World_behind.d.qual F_World_behind.d.params F_World_behind.d.body F_World_behind.d.scope .none kV doc pm an cdv ct) ⟨us, []⟩ = pure (F_World_behind.ps.zip us) := match us, hl with | [_, _, _], _ => rfl
theorem bi_F_next_to (_ : F_next_to.pl = true) (kV doc pm : Value) (an : Option Addr) (cdv ct : Value) (us : List Value) (hl : us.length = F_next_to.ps.length) : bindArgs (PySem.W.fnOf F_next_to.d.name F_next_to.d.qual F_next_to.d.params F_next_to.d.body F_next_to.d.scope .none kV doc pm an cdv ct) ⟨us, []⟩ = pure (F_next_to.ps.zip us) := match us, hl with | [_, _], _ => rfl
theorem bi_F_Floor_goes (_ : F_Floor_goes.pl = true) (kV doc pm : Value) (an : Option Addr) (cdv ct : Value) (us : List Value) (hl : us.length = F_Floor_goes.ps.length) : bindArgs (PySem.W.fnOf F_Floor_goes.d.name F_Floor_goes.d.qual F_Floor_goes.d.params F_Floor_goes.d.body F_Floor_goes.d.scope .none kV doc pm an cdv ct) ⟨us, []⟩ = pure (F_Floor_goes.ps.zip us) := match us, hl with | [_, _, _], _ => rfl
theorem bi_F_Floor_sign (_ : F_Floor_sign.pl = true) (kV doc pm : Value) (an : Option Addr) (cdv ct : Value) (us : List Value) (hl : us.length = F_Floor_sign.ps.length) : bindArgs (PySem.W.fnOf F_Floor_sign.d.name F_Floor_sign.d.qual F_Floor_sign.d.params F_Floor_sign.d.body F_Floor_sign.d.scope .none kV doc pm an cdv ct) ⟨us, []⟩ = pure (F_Floor_sign.ps.zip us) := match us, hl with | [_, _], _ => rfl
theorem binds : BindAll G.D := ⟨bi_F_want_deed, ⟨bi_F_is_turn, ⟨bi_F_want_turn, ⟨bi_F_way, ⟨bi_F_want_row, ⟨bi_F_row_turned, ⟨bi_F_then, ⟨bi_F_law_spots_of, ⟨bi_F_law_stretch_right, ⟨bi_F_law_right, ⟨bi_F_law_mixed, ⟨bi_F_law_take, ⟨bi_F_law_one, ⟨bi_F_law_deeds, ⟨bi_F_are_wishes, ⟨bi_F_is_book, ⟨bi_F_is_text, ⟨bi_F_want_rows, ⟨bi_F_Floor__init, ⟨bi_F_first_wrong, ⟨bi_F_World__init, ⟨bi_F_law_made, ⟨bi_F_law_spots, ⟨bi_F_law_swing, ⟨bi_F_law_plan, ⟨bi_F_law_texts, ⟨bi_F_law_source, ⟨bi_F_law, ⟨bi_F_World_begun, ⟨bi_F_World_walk, ⟨bi_F_World_comings, ⟨bi_F_World_ways, ⟨bi_F_is_whole, ⟨bi_F_is_from, ⟨bi_F_is_place, ⟨bi_F_Floor_has, ⟨bi_F_Floor_seen, ⟨bi_F_Floor_letters, ⟨bi_F_Floor_open_places, ⟨bi_F_is_stand, ⟨bi_F_World_want_stand, ⟨bi_F_World_gone, ⟨bi_F_Floor_size, ⟨bi_F_Floor_places, ⟨bi_F_Floor_can_stand, ⟨bi_F_World_behind, ⟨bi_F_next_to, ⟨bi_F_Floor_goes, ⟨bi_F_Floor_sign, trivial⟩⟩⟩⟩⟩⟩⟩⟩⟩⟩⟩⟩⟩⟩⟩⟩⟩⟩⟩⟩⟩⟩⟩⟩⟩⟩⟩⟩⟩⟩⟩⟩⟩⟩⟩⟩⟩⟩⟩⟩⟩⟩⟩⟩⟩⟩⟩⟩⟩
theorem kb_0 : KbOk F_World__init 3 [] [.a 0, .a 1, .a 2, .d 0 (.str ['u', 'r', 'd', 'l']), .d 1 (.non), .d 2 (.tup [])] [0, 1, 2] := ⟨rfl, by kernel_rfl, .inr ⟨List.cons_ne_nil _ _, fun D doc pm' an cdv ct us mv ws h1 h2 h3 => match us, mv, ws, h1, h2, h3 with | [_, _, _], [_, _, _], [], _, _, _ => ⟨_, _, _, _, _, _, rfl, rfl, ⟨_, _, _, _, _, _, rfl, rfl, ⟨_, _, _, _, _, _, rfl, rfl, rfl⟩⟩⟩⟩⟩
theorem kb_1 : KbOk F_World__init 3 ["turn", "book", "wishes"] [.a 0, .a 1, .a 2, .a 3, .a 4, .a 5] [] := ⟨rfl, by kernel_rfl, .inr ⟨List.cons_ne_nil _ _, fun D doc pm' an cdv ct us mv ws h1 h2 h3 => match us, mv, ws, h1, h2, h3 with | [_, _, _], [], [_, _, _], _, _, _ => rfl⟩⟩
theorem kb_2 : KbOk F_World__init 3 ["book", "wishes"] [.a 0, .a 1, .a 2, .d 0 (.str ['u', 'r', 'd', 'l']), .a 3, .a 4] [0] := ⟨rfl, by kernel_rfl, .inr ⟨List.cons_ne_nil _ _, fun D doc pm' an cdv ct us mv ws h1 h2 h3 => match us, mv, ws, h1, h2, h3 with | [_, _, _], [_], [_, _], _, _, _ => ⟨_, _, _, _, _, _, rfl, rfl, rfl⟩⟩⟩
theorem kbs : KbAll G G.KS := ⟨⟨_, _, rfl, kb_0⟩, ⟨⟨_, _, rfl, kb_1⟩, ⟨⟨_, _, rfl, kb_2⟩, trivial⟩⟩⟩
theorem chk : chkA G = true := by kernel_rfl
theorem nam : namB G = true := by kernel_rfl
end K19
end

section
set_option Elab.async false
set_option linter.all false
set_option maxRecDepth 100000
set_option maxHeartbeats 0
namespace K19
open PySem Mi
def nm0 : List Str := ["_wall", "__name__", "HandError", "NoTurn", "NoRow", "NoFloor", "NoPlace", "NoWorld", "NoStand", "is_whole", "is_from", "is_place", "DEEDS", "TURNS", "is_turn", "want_turn", "want_row", "want_deed", "way", "row_turned", "then", "WALL", "ICE", "PIT", "LETTERS", "OPEN", "SIGNS", "MOST", "STEPS", "is_text"]
def nm1 : List Str := ["want_rows", "next_to", "Floor", "is_stand", "is_book", "are_wishes", "first_wrong", "World", "_law_mixed", "_law_source", "_law_take", "_law_one", "_law_texts", "_law_swing", "_law_spots", "_law_plan", "_law_made", "_law_deeds", "_law_spots_of", "_law_stretch_right", "_law_right"]
abbrev loose : List Str := nm0 ++ nm1
abbrev R : PySem.W.OpenRow := PySem.W.OpenLaw.row PySem.Challenge.rw_onehand_k19_whole_a_walk_is_a_bookless_o
theorem run (w : World) : HandSHeadRun.RunEq R (PySem.W.view R.prog [56]) (hookM 6 G) (obM 6 G) 9000 loose w := by
  intro os
  kernel_rfl
end K19
end

section
set_option Elab.async false
set_option linter.all false
set_option maxRecDepth 100000
set_option maxHeartbeats 4000000
/-! MiS: what is wanted behind a tree; rules for proofs about the interpreter. -/
namespace Mi
open PySem

def optP {A : Type} (o : Option A) (P : A → Prop) : Prop := match o with
  | some a => P a
  | none => False
@[simp] theorem optP_some {A : Type} {a : A} {P : A → Prop} : optP (some a) P = P a := rfl
@[simp] theorem optP_none {A : Type} {P : A → Prop} : optP (none : Option A) P = False := rfl
def Rwp {A : Type} (r : R A) (Q : A → Mem → Prop) : Prop := match r with
  | .ok a m => Q a m
  | _ => False
def Swp (r : RS) (N : Env → Mem → Prop) (Rt : W → Mem → Prop) : Prop := match r with
  | .next e m => N e m
  | .ret w m => Rt w m
  | _ => False
section
variable {A D : Type} {T : Tab} {cl : Caller} {e : Env} {m : Mem} {Q Q' : W → Mem → Prop} {N N' : Env → Mem → Prop} {Rt Rt' : W → Mem → Prop}
@[simp] theorem Rwp_ok {a : A} {Q : A → Mem → Prop} : Rwp (.ok a m) Q = Q a m := rfl
@[simp] theorem Rwp_bad {Q : A → Mem → Prop} : Rwp (.bad : R A) Q = False := rfl
@[simp] theorem Rwp_bind {r : R A} {f : A → Mem → R D} {Q : D → Mem → Prop} : Rwp (r.bind f) Q = Rwp r fun a m => Rwp (f a m) Q := by cases r <;> rfl
theorem Rwp_ofO {o : Option A} {Q : A → Mem → Prop} : Rwp (ofO m o) Q = optP o fun a => Q a m := by cases o <;> rfl
@[simp] theorem Rwp_some {a : A} {Q : A → Mem → Prop} : Rwp (ofO m (some a)) Q = Q a m := rfl
@[simp] theorem Rwp_alloc {o : Ob} : Rwp (alloc o m) Q = Q (.obj m.length) (m ++ [o]) := rfl
@[simp] theorem Swp_next : Swp (.next e m) N Rt = N e m := rfl
@[simp] theorem Swp_ret {w : W} : Swp (.ret w m) N Rt = Rt w m := rfl
@[simp] theorem Swp_bad : Swp .bad N Rt = False := rfl
@[simp] theorem Swp_ofR {r : R A} {f : A → Mem → RS} : Swp (.ofR e r f) N Rt = Rwp r fun a m => Swp (f a m) N Rt := by cases r <;> rfl
theorem Rwp.mono {r : R A} {Q Q' : A → Mem → Prop} (h : Rwp r Q) (k : ∀ a m, Q a m → Q' a m) : Rwp r Q' := by
  cases r with
  | ok a m => exact k a m h
  | _ => exact h
theorem Swp.mono {r : RS} (h : Swp r N Rt) (k : ∀ e m, N e m → N' e m) (k' : ∀ w m, Rt w m → Rt' w m) : Swp r N' Rt' := by
  cases r with
  | next e m => exact k e m h
  | ret w m => exact k' w m h
  | _ => exact h
theorem Rwp.ok {r : R A} {Q : A → Mem → Prop} (h : Rwp r Q) : ∃ a m, r = .ok a m ∧ Q a m := by
  cases r with
  | ok a m => exact ⟨a, m, rfl, h⟩
  | _ => exact h.elim
/-! ### trees -/
@[simp] theorem w_var {i : Nat} : Rwp (ev T cl (.var i) e m) Q = match e[i]? with
    | some (some w) => Q w m
    | _ => False := by
  rw [ev_var]
  dsimp only
  cases e[i]? with
  | none => rfl
  | some o => cases o <;> rfl
@[simp] theorem w_non : Rwp (ev T cl .non e m) Q = Q .non m := by rw [ev_non] <;> rfl
@[simp] theorem w_bl {b : Bool} : Rwp (ev T cl (.bl b) e m) Q = Q (.bl b) m := by rw [ev_bl] <;> rfl
@[simp] theorem w_int {i : Int} : Rwp (ev T cl (.int i) e m) Q = Q (.int i) m := by rw [ev_int] <;> rfl
@[simp] theorem w_str {x : Tx} : Rwp (ev T cl (.str x) e m) Q = Q (.str x) m := by rw [ev_str] <;> rfl
@[simp] theorem w_glo {g : Nat} : Rwp (ev T cl (.glo g) e m) Q = optP (T.gl g) fun w => Q w m := by rw [ev_glo]; dsimp only; exact Rwp_ofO
@[simp] theorem w_bin {o : Bop} {a b : CE} : Rwp (ev T cl (.bin o a b) e m) Q = Rwp (ev T cl a e m) fun w m1 => Rwp (ev T cl b e m1) fun u m2 => Rwp (binop o w u m2) Q := by rw [ev_bin]; simp
@[simp] theorem w_neg {a : CE} : Rwp (ev T cl (.neg a) e m) Q = Rwp (ev T cl a e m) fun w m1 => Rwp (negW m1 w) Q := by rw [ev_neg]; simp
@[simp] theorem w_not {a : CE} : Rwp (ev T cl (.not a) e m) Q = Rwp (ev T cl a e m) fun w m1 => Rwp (tru w m1) fun b m2 => Q (.bl (!b)) m2 := by rw [ev_not]; simp
@[simp] theorem w_cmp {o : Cop} {a b : CE} : Rwp (ev T cl (.cmp o a b) e m) Q = Rwp (ev T cl a e m) fun w m1 => Rwp (ev T cl b e m1) fun u m2 => Rwp (cmpop o w u m2) Q := by rw [ev_cmp]; simp
@[simp] theorem w_chain {o p : Cop} {a b c : CE} : Rwp (ev T cl (.chain o p a b c) e m) Q = Rwp (ev T cl a e m) fun w m1 => Rwp (ev T cl b e m1) fun u m2 => Rwp (cmpop o w u m2) fun x m3 => match x with
    | .bl true => Rwp (ev T cl c e m3) fun v m4 => Rwp (cmpop p u v m4) Q
    | .bl false => Q (.bl false) m3
    | _ => False := by
  rw [ev_chain]
  simp only [Rwp_bind]
  congr
  funext w m1
  congr
  funext u m2
  congr
  funext x m3
  split <;> simp
@[simp] theorem w_and_s {a b : CE} : Rwp (ev T cl (.and a b) e m) Q = Rwp (ev T cl a e m) fun w m1 => Rwp (tru w m1) fun t m2 => if t = true then Rwp (ev T cl b e m2) Q else Q w m2 := by
  rw [ev_and]
  simp only [Rwp_bind]
  congr
  funext w m1
  congr
  funext t m2
  cases t <;> rfl
@[simp] theorem w_or_s {a b : CE} : Rwp (ev T cl (.or a b) e m) Q = Rwp (ev T cl a e m) fun w m1 => Rwp (tru w m1) fun t m2 => if t = true then Q w m2 else Rwp (ev T cl b e m2) Q := by
  rw [ev_or]
  simp only [Rwp_bind]
  congr
  funext w m1
  congr
  funext t m2
  cases t <;> rfl
@[simp] theorem w_ite {c a b : CE} : Rwp (ev T cl (.ite c a b) e m) Q = Rwp (ev T cl c e m) fun w m1 => Rwp (tru w m1) fun t m2 => if t = true then Rwp (ev T cl a e m2) Q else Rwp (ev T cl b e m2) Q := by
  rw [ev_ite]
  simp only [Rwp_bind]
  congr
  funext w m1
  congr
  funext t m2
  cases t <;> rfl
@[simp] theorem w_tup {l : CL} : Rwp (ev T cl (.tup l) e m) Q = Rwp (evL T cl l e m) fun ws m1 => Q (.tup ws) m1 := by rw [ev_tup]; simp
@[simp] theorem w_lst {l : CL} : Rwp (ev T cl (.lst l) e m) Q = Rwp (evL T cl l e m) fun ws m1 => Q (.obj m1.length) (m1 ++ [.lst ws]) := by rw [ev_lst]; simp
@[simp] theorem w_dct {l : CL} : Rwp (ev T cl (.dct l) e m) Q = Rwp (evL T cl l e (m ++ [.dct []])) fun ws m1 => Rwp (dctEnd m.length ws m1) Q := by rw [ev_dct]; simp
@[simp] theorem w_idx {a b : CE} : Rwp (ev T cl (.idx a b) e m) Q = Rwp (ev T cl a e m) fun w m1 => Rwp (ev T cl b e m1) fun u m2 => Rwp (idxW w u m2) Q := by rw [ev_idx]; simp
theorem w_slc {a lo hi : CE} : Rwp (ev T cl (.slc a lo hi) e m) Q = Rwp (ev T cl a e m) fun w m1 => Rwp (prt lo.isN (ev T cl lo e m1)) fun l m2 => Rwp (prt hi.isN (ev T cl hi e m2)) fun h m3 => Rwp (slcW w l h m3) Q := by rw [ev_slc]; simp
@[simp] theorem w_prt {b : Bool} {r : R W} {P : Option Int → Mem → Prop} : Rwp (prt b r) P = Rwp r fun w m1 => optP (part b w) fun l => P l m1 := by
  unfold prt
  rw [Rwp_bind]
  congr
  funext w m1
  exact Rwp_ofO
theorem w_fld {a : CE} {f : Nat} : Rwp (ev T cl (.fld a f) e m) Q = Rwp (ev T cl a e m) fun w m1 => match w with
    | .obj k => match m1[k]? with
      | some (.ins _ fs) => optP (fs.lookup f) fun u => Q u m1
      | _ => False
    | _ => False := by
  rw [ev_fld]
  simp only [Rwp_bind]
  congr
  funext w m1
  cases w with
  | obj k =>
    dsimp only
    cases m1[k]? with
    | none => rfl
    | some o =>
      cases o with
      | ins c fs => dsimp only; exact Rwp_ofO
      | _ => rfl
  | _ => rfl
@[simp] theorem w_call {f : Nat} {l : CL} : Rwp (ev T cl (.call f l) e m) Q = Rwp (evL T cl l e m) fun ws m1 => Rwp (cl f ws m1) Q := by rw [ev_call]; simp
theorem w_meth {n : Nat} {r : CE} {l : CL} : Rwp (ev T cl (.meth n r l) e m) Q = Rwp (ev T cl r e m) fun w m1 => match w with
    | .obj k => match m1[k]? with
      | some (.ins c _) => optP (T.cl c) fun C => optP (C.meths.lookup n) fun f => Rwp (evL T cl l e m1) fun ws m2 => Rwp (cl f (w :: ws) m2) Q
      | _ => False
    | _ => False := by
  rw [ev_meth]
  simp only [Rwp_bind]
  congr
  funext w m1
  cases w with
  | obj k =>
    dsimp only
    cases m1[k]? with
    | none => rfl
    | some o =>
      cases o with
      | ins c fs =>
        dsimp only
        cases T.cl c with
        | none => rfl
        | some C =>
          dsimp only [optP_some]
          cases C.meths.lookup n with
          | none => rfl
          | some f => simp
      | _ => rfl
  | _ => rfl
theorem w_make {c : Nat} {l : CL} : Rwp (ev T cl (.make c l) e m) Q = Rwp (evL T cl l e m) fun ws m1 => optP (T.cl c) fun C => Rwp (cl C.init (.obj m1.length :: ws) (m1 ++ [.ins c []])) fun w m2 => w = .non ∧ Q (.obj m1.length) m2 := by
  rw [ev_make]
  simp only [Rwp_bind]
  congr
  funext ws m1
  cases T.cl c with
  | none => rfl
  | some C =>
    simp only [Rwp_bind, optP_some]
    congr
    funext w m2
    cases w <;> simp
@[simp] theorem w_callK {f : Nat} {l kl : CL} {pm : List Pk} : Rwp (ev T cl (.callK f l kl pm) e m) Q = Rwp (evL T cl l e m) fun ws m1 => Rwp (evL T cl kl e m1) fun us m2 => optP (permW pm (ws ++ us)) fun vs => Rwp (cl f vs m2) Q := by
  rw [ev_callK]
  simp only [Rwp_bind]
  congr
  funext ws m1
  congr
  funext us m2
  cases permW pm (ws ++ us) <;> rfl
theorem w_methK {n : Nat} {r : CE} {l kl : CL} {pm : List Pk} : Rwp (ev T cl (.methK n r l kl pm) e m) Q = Rwp (ev T cl r e m) fun w m1 => match w with
    | .obj k => match m1[k]? with
      | some (.ins c _) => optP (T.cl c) fun C => optP (C.meths.lookup n) fun f => Rwp (evL T cl l e m1) fun ws m2 => Rwp (evL T cl kl e m2) fun us m3 => optP (permW pm (w :: (ws ++ us))) fun vs => Rwp (cl f vs m3) Q
      | _ => False
    | _ => False := by
  rw [ev_methK]
  simp only [Rwp_bind]
  congr
  funext w m1
  cases w with
  | obj k =>
    dsimp only
    cases m1[k]? with
    | none => rfl
    | some o =>
      cases o with
      | ins c fs =>
        dsimp only
        cases T.cl c with
        | none => rfl
        | some C =>
          dsimp only [optP_some]
          cases C.meths.lookup n with
          | none => rfl
          | some f =>
            simp only [Rwp_bind, optP_some]
            congr
            funext ws m2
            congr
            funext us m3
            cases permW pm (.obj k :: (ws ++ us)) <;> rfl
      | _ => rfl
  | _ => rfl
theorem w_makeK {c : Nat} {l kl : CL} {pm : List Pk} : Rwp (ev T cl (.makeK c l kl pm) e m) Q = Rwp (evL T cl l e m) fun ws m1 => Rwp (evL T cl kl e m1) fun us m2 => optP (T.cl c) fun C => optP (permW pm (.obj m2.length :: (ws ++ us))) fun vs => Rwp (cl C.init vs (m2 ++ [.ins c []])) fun w m3 => w = .non ∧ Q (.obj m2.length) m3 := by
  rw [ev_makeK]
  simp only [Rwp_bind]
  congr
  funext ws m1
  congr
  funext us m2
  cases T.cl c with
  | none => rfl
  | some C =>
    simp only [optP_some]
    cases permW pm (.obj m2.length :: (ws ++ us)) with
    | none => rfl
    | some vs =>
      simp only [Rwp_bind, optP_some]
      congr
      funext w m3
      cases w <;> simp
@[simp] theorem w_blt {b : Blt} {l : CL} : Rwp (ev T cl (.blt b l) e m) Q = Rwp (evL T cl l e m) fun ws m1 => Rwp (bltW b ws m1) Q := by rw [ev_blt]; simp
@[simp] theorem w_bm {n : Bm} {r : CE} {l : CL} : Rwp (ev T cl (.bm n r l) e m) Q = Rwp (ev T cl r e m) fun w m1 => rcvOk n w m1 = true ∧ Rwp (evL T cl l e m1) fun ws m2 => Rwp (bmW n w ws m2) Q := by
  rw [ev_bm]
  simp only [Rwp_bind]
  congr
  funext w m1
  cases h : rcvOk n w m1 with
  | true => simp
  | false => simp
theorem w_lk {d a : CE} : Rwp (ev T cl (.lk d a) e m) Q = optP (dctOf (ev T cl d e m) m) fun p => Rwp (ev T cl a e (m.set p.1 (.dcl p.2))) fun w m' => Q w (m'.set p.1 (.dct p.2)) := by
  rw [ev_lk]
  dsimp only
  cases dctOf (ev T cl d e m) m with
  | none => rfl
  | some p =>
    dsimp only [optP_some]
    cases ev T cl a e (m.set p.1 (.dcl p.2)) <;> rfl
@[simp] theorem w_isi2 {a : CE} {k1 k2 : Kd} : Rwp (ev T cl (.isi2 a k1 k2) e m) Q = Rwp (ev T cl a e m) fun w m1 => Rwp (isiW m1 w [k1, k2]) Q := by rw [ev_isi2]; simp
@[simp] theorem w_lset {a : CE} : Rwp (ev T cl (.lset a) e m) Q = Rwp (ev T cl a e m) fun w m1 => Rwp (lsetW w m1) Q := by rw [ev_lset]; simp
@[simp] theorem w_sset {a : CE} : Rwp (ev T cl (.sset a) e m) Q = Rwp (ev T cl a e m) fun w m1 => Rwp (ssetW w m1) Q := by rw [ev_sset]; simp
@[simp] theorem w_isi {a : CE} {ks : List Kd} : Rwp (ev T cl (.isi a ks) e m) Q = Rwp (ev T cl a e m) fun w m1 => Rwp (isiW m1 w ks) Q := by rw [ev_isi]; simp
def lcB1 (T : Tab) (cl : Caller) (own : List Nat) (elt : CE) (t : CT) (ifs : CL) (e : Env) : W → Mem → R (Option W) := fun x m2 => match asgT m2 t x (wipeE e own) with
        | some e2 => (evT T cl ifs e2 m2).bind fun b m3 => if b then (ev T cl elt e2 m3).bind fun w m4 => .ok (some w) m4 else .ok none m3
        | none => .bad
theorem w_lc {own : List Nat} {elt : CE} {t : CT} {it : CI} {ifs : CL} : Rwp (ev T cl (.lc own elt t it ifs) e m) Q = Rwp (evI T cl it e m) fun s m1 => Rwp (lcRun s m1.length (lcB1 T cl own elt t ifs e) (s.len m1 + 1) 0 (m1 ++ [.lst []])) fun _ m5 => Q (.obj m1.length) m5 := by
  rw [ev_lc]
  simp only [Rwp_bind]
  rfl
@[simp] theorem wl_nil {P : List W → Mem → Prop} : Rwp (evL T cl .nil e m) P = P [] m := by rw [evL_nil] <;> rfl
@[simp] theorem wl_cons {a : CE} {l : CL} {P : List W → Mem → Prop} : Rwp (evL T cl (.cons a l) e m) P = Rwp (ev T cl a e m) fun w m1 => Rwp (evL T cl l e m1) fun ws m2 => P (w :: ws) m2 := by rw [evL_cons]; simp
@[simp] theorem wt_nil {P : Bool → Mem → Prop} : Rwp (evT T cl .nil e m) P = P true m := by rw [evT_nil] <;> rfl
@[simp] theorem wt_cons {a : CE} {l : CL} {P : Bool → Mem → Prop} : Rwp (evT T cl (.cons a l) e m) P = Rwp (ev T cl a e m) fun w m1 => Rwp (tru w m1) fun b m2 => if b = true then Rwp (evT T cl l e m2) P else P false m2 := by
  rw [evT_cons]
  simp only [Rwp_bind]
  congr
  funext w m1
  congr
  funext t m2
  cases t <;> rfl
@[simp] theorem smI_simp {i : Int} : (smI i = true) = (-(2 ^ 62) < i ∧ i < 2 ^ 62) := propext smI_iff
@[simp] theorem wi_ex {a : CE} {P : Src → Mem → Prop} : Rwp (evI T cl (.ex a) e m) P = Rwp (ev T cl a e m) fun w m1 => optP (srcOf m1 w) fun b => P (.one b) m1 := by
  rw [evI_ex]
  simp only [Rwp_bind]
  congr
  funext w m1
  cases srcOf m1 w <;> rfl
@[simp] theorem wi_rng {l : CL} {P : Src → Mem → Prop} : Rwp (evI T cl (.rng l) e m) P = Rwp (evL T cl l e m) fun ws m1 => optP (rngW ws) fun us => P (.one (.st us)) m1 := by
  rw [evI_rng]
  simp only [Rwp_bind]
  congr
  funext w m1
  cases rngW w <;> rfl
@[simp] theorem wi_dk {a : CE} {P : Src → Mem → Prop} : Rwp (evI T cl (.dk a) e m) P = Rwp (ev T cl a e m) fun w m1 => match w with
    | .obj k => match m1[k]? with
      | some (.dcl _) => P (.one (.dk k)) m1
      | _ => False
    | _ => False := by
  rw [evI_dk]
  simp only [Rwp_bind]
  congr
  funext w m1
  cases w with
  | obj k =>
    dsimp only
    cases m1[k]? with
    | none => rfl
    | some o => cases o <;> rfl
  | _ => rfl
@[simp] theorem wi_enm {a : CE} {P : Src → Mem → Prop} : Rwp (evI T cl (.enm a) e m) P = Rwp (ev T cl a e m) fun w m1 => optP (srcOfE m1 w) fun b => P (.enm b) m1 := by
  rw [evI_enm]
  simp only [Rwp_bind]
  congr
  funext w m1
  cases srcOfE m1 w <;> rfl
/-! ### statements -/
@[simp] theorem s_pass : Swp (xS T cl .pass e m) N Rt = N e m := by rw [xS_pass] <;> rfl
@[simp] theorem s_expr {a : CE} : Swp (xS T cl (.expr a) e m) N Rt = Rwp (ev T cl a e m) fun _ m1 => N e m1 := by rw [xS_expr]; simp
@[simp] theorem s_ret {a : CE} : Swp (xS T cl (.ret a) e m) N Rt = Rwp (ev T cl a e m) Rt := by rw [xS_ret]; simp
@[simp] theorem s_retN : Swp (xS T cl .retN e m) N Rt = Rt .non m := by rw [xS_retN] <;> rfl
@[simp] theorem s_set {i : Nat} {a : CE} : Swp (xS T cl (.set i a) e m) N Rt = Rwp (ev T cl a e m) fun w m1 => N (e.set i (some w)) m1 := by rw [xS_set]; simp
@[simp] theorem s_unp {t : CTL} {a : CE} : Swp (xS T cl (.unp t a) e m) N Rt = Rwp (ev T cl a e m) fun w m1 => optP (asgT m1 (.tp t) w e) fun e' => N e' m1 := by
  rw [xS_unp]
  simp only [Swp_ofR]
  congr
  funext w m1
  cases asgT m1 (.tp t) w e <;> rfl
@[simp] theorem s_par {i j : Nat} {a b : CE} : Swp (xS T cl (.par i j a b) e m) N Rt = Rwp (ev T cl a e m) fun w m1 => Rwp (ev T cl b e m1) fun u m2 => N ((e.set i (some w)).set j (some u)) m2 := by rw [xS_par]; simp
@[simp] theorem s_sub {o i a : CE} : Swp (xS T cl (.sub o i a) e m) N Rt = Rwp (ev T cl a e m) fun w m1 => Rwp (ev T cl o e m1) fun u m2 => Rwp (ev T cl i e m2) fun v m3 => optP (subW u v w m3) fun m4 => N e m4 := by
  rw [xS_sub]
  simp only [Swp_ofR]
  congr
  funext w m1
  congr
  funext u m2
  congr
  funext v m3
  cases subW u v w m3 <;> rfl
def fldW (u : W) (f : Nat) (w : W) (m : Mem) : Option Mem := match u with
    | .obj k => match m[k]? with
      | some (.ins c fs) => if fs.length < 900 then some (m.set k (.ins c (putA f w fs))) else none
      | _ => none
    | _ => none
@[simp] theorem s_fld_s {o : CE} {f : Nat} {a : CE} : Swp (xS T cl (.fld o f a) e m) N Rt = Rwp (ev T cl a e m) fun w m1 => Rwp (ev T cl o e m1) fun u m2 => optP (fldW u f w m2) fun m3 => N e m3 := by
  rw [xS_fld]
  simp only [Swp_ofR]
  congr
  funext w m1
  congr
  funext u m2
  unfold fldW
  cases u with
  | obj k =>
    dsimp only
    cases m2[k]? with
    | none => rfl
    | some ob =>
      cases ob with
      | ins c fs =>
        dsimp only
        by_cases h : fs.length < 900
        · rw [if_pos h, if_pos h] <;> rfl
        · rw [if_neg h, if_neg h] <;> rfl
      | _ => rfl
  | _ => rfl
@[simp] theorem s_iff {c : CE} {a b : CB} : Swp (xS T cl (.iff c a b) e m) N Rt = Rwp (ev T cl c e m) fun w m1 => Rwp (tru w m1) fun t m2 => if t = true then Swp (xB T cl a e m2) N Rt else Swp (xB T cl b e m2) N Rt := by
  rw [xS_iff]
  simp only [Swp_ofR]
  congr
  funext w m1
  congr
  funext t m2
  cases t <;> rfl
theorem s_whl {c : CE} {b : CB} : Swp (xS T cl (.whl c b) e m) N Rt = Swp (whRun (fun e1 m1 => (ev T cl c e1 m1).bind tru) (fun e1 m1 => xB T cl b e1 m1) FUEL e m) N Rt := by rw [xS_whl] <;> rfl
def forB (T : Tab) (cl : Caller) (t : CT) (b : CB) : W → Env → Mem → RS := fun x e1 m2 => match asgT m2 t x e1 with
      | some e2 => xB T cl b e2 m2
      | none => .bad
theorem s_for {t : CT} {it : CI} {b : CB} : Swp (xS T cl (.for t it b) e m) N Rt = Rwp (evI T cl it e m) fun s m1 => Swp (forRun s (forB T cl t b) (s.len m1 + 1) 0 e m1) N Rt := by
  rw [xS_for_]
  simp only [Swp_ofR]
  rfl
@[simp] theorem s_nvr : Swp (xS T cl .nvr e m) N Rt = False := by rw [xS_nvr] <;> rfl
@[simp] theorem b_nil' : Swp (xB T cl .nil e m) N Rt = N e m := by rw [xB_nil] <;> rfl
@[simp] theorem b_cons' {s : CS} {b : CB} : Swp (xB T cl (.cons s b) e m) N Rt = Swp (xS T cl s e m) (fun e1 m1 => Swp (xB T cl b e1 m1) N Rt) Rt := by
  rw [xB_cons]
  dsimp only
  cases xS T cl s e m <;> rfl
/-! ### calls -/
theorem s_lk {d : CE} {s : CS} : Swp (xS T cl (.lk d s) e m) N Rt = optP (dctOf (ev T cl d e m) m) fun p => Swp (xS T cl s e (m.set p.1 (.dcl p.2))) (fun e' m' => N e' (m'.set p.1 (.dct p.2))) (fun w m' => Rt w (m'.set p.1 (.dct p.2))) := by
  rw [xS_lk]
  dsimp only
  cases dctOf (ev T cl d e m) m with
  | none => rfl
  | some p =>
    dsimp only [optP_some]
    cases xS T cl s e (m.set p.1 (.dcl p.2)) <;> rfl
theorem dctOf_ok {r : R W} {k : Nat} {m1 : Mem} {kvs : List (W × W)} (h : r = .ok (.obj k) m1) (g : m[k]? = some (.dct kvs)) : dctOf r m = some (k, kvs) := by
  subst h
  simp only [dctOf, g]
theorem call_wp {n f : Nat} {F : Fn} {ws : List W} {Q : W → Mem → Prop} (hf : T.fn f = some F) (hl : ws.length = F.np) (h : Swp (xB T (callN T n) F.body (ws.map some ++ List.replicate (F.ns - F.np) none) m) (fun _ m' => Q .non m') Q) : Rwp (callN T (n + 1) f ws m) Q := by
  rw [callN, hf]
  dsimp only
  rw [if_pos hl]
  cases q : xB T (callN T n) F.body (ws.map some ++ List.replicate (F.ns - F.np) none) m with
  | next e m' => rw [q] at h; exact h
  | ret w m' => rw [q] at h; exact h
  | rse _ _ _ _ => rw [q] at h; exact h
  | bad => rw [q] at h; exact h
/-! ### operations -/
@[simp] theorem r_add {i j : Int} : Rwp (binop .add (.int i) (.int j) m) Q = Q (.int (i + j)) m := rfl
@[simp] theorem r_sub {i j : Int} : Rwp (binop .sub (.int i) (.int j) m) Q = Q (.int (i - j)) m := rfl
@[simp] theorem r_adds {x y : Tx} : Rwp (binop .add (.str x) (.str y) m) Q = (x.length + y.length ≤ SL ∧ Q (.str (x ++ y)) m) := by
  simp only [binop]
  split <;> simp [*]
@[simp] theorem r_mul {i j : Int} : Rwp (binop .mul (.int i) (.int j) m) Q = (((-(2 ^ 64) < i ∧ i < 2 ^ 64) ∨ (-(2 ^ 64) < j ∧ j < 2 ^ 64)) ∧ Q (.int (i * j)) m) := by
  simp only [binop]
  split
  · rename_i h; simp only [h, true_and, Rwp_ok]
  · rename_i h; simp only [h, false_and, Rwp_bad]
@[simp] theorem r_fdiv {i j : Int} : Rwp (binop .fdiv (.int i) (.int j) m) Q = ((0 < j ∧ j < 2 ^ 64) ∧ Q (.int (i / j)) m) := by
  simp only [binop]
  split
  · rename_i h; simp only [h, true_and, Rwp_ok]
  · rename_i h; simp only [h, false_and, Rwp_bad]
@[simp] theorem r_mod {i j : Int} : Rwp (binop .mod (.int i) (.int j) m) Q = (0 < j ∧ Q (.int (i % j)) m) := by
  simp only [binop]
  split
  · rename_i h; simp only [h, true_and, Rwp_ok]
  · rename_i h; simp only [h, false_and, Rwp_bad]
@[simp] theorem r_pow {i j : Int} : Rwp (binop .pow (.int i) (.int j) m) Q = ((0 ≤ j ∧ j ≤ 1000 ∧ i.natAbs < 2 ^ 64) ∧ Q (.int (i ^ j.toNat)) m) := by
  simp only [binop]
  split
  · rename_i h; simp only [h, true_and, Rwp_ok]
  · rename_i h; simp only [h, false_and, Rwp_bad]
@[simp] theorem r_neg {i : Int} : Rwp (negW m (.int i)) Q = Q (.int (-i)) m := rfl
@[simp] theorem r_lt {i j : Int} : Rwp (cmpop .lt (.int i) (.int j) m) Q = Q (.bl (decide (i < j))) m := rfl
@[simp] theorem r_le {i j : Int} : Rwp (cmpop .le (.int i) (.int j) m) Q = Q (.bl (decide (i ≤ j))) m := rfl
@[simp] theorem r_gt {i j : Int} : Rwp (cmpop .gt (.int i) (.int j) m) Q = Q (.bl (decide (j < i))) m := rfl
@[simp] theorem r_ge {i j : Int} : Rwp (cmpop .ge (.int i) (.int j) m) Q = Q (.bl (decide (j ≤ i))) m := rfl
@[simp] theorem r_is {w : W} : Rwp (cmpop .is w .non m) Q = Q (.bl (isNon w)) m := rfl
@[simp] theorem r_isn {w : W} : Rwp (cmpop .isn w .non m) Q = Q (.bl (!isNon w)) m := rfl
@[simp] theorem r_tru {b : Bool} {P : Bool → Mem → Prop} : Rwp (tru (.bl b) m) P = P b m := rfl
theorem sx_inj' {x y : Tx} (h : sx x = sx y) : x = y := by
  have h1 : x.map Char.toNat = y.map Char.toNat := by
    have := congrArg (fun s : Str => s.cps.toList) h
    simpa [sx] using this
  have key : ∀ {x y : Tx}, x.map Char.toNat = y.map Char.toNat → x = y := by
    intro x
    induction x with
    | nil => intro y h; cases y with
      | nil => rfl
      | cons _ _ => simp at h
    | cons c x ih => intro y h; cases y with
      | nil => simp at h
      | cons d y =>
        simp only [List.map_cons, List.cons.injEq] at h
        rw [ih h.2, Char.ext (UInt32.toNat_inj.mp h.1)]
  exact key h1
theorem eqW_int {i j : Int} : eqW m (.int i) (.int j) = some (decide (i = j)) := by
  unfold eqW
  simp only [toD, PyData.eqv]
  congr 1
theorem eqW_str {x y : Tx} : eqW m (.str x) (.str y) = some (decide (x = y)) := by
  unfold eqW
  simp only [toD, PyData.eqv]
  congr 1
  rw [Bool.eq_iff_iff, beq_iff_eq, decide_eq_true_eq]
  exact ⟨sx_inj', fun h => by rw [h]⟩
@[simp] theorem r_eqi {i j : Int} : Rwp (cmpop .eq (.int i) (.int j) m) Q = Q (.bl (decide (i = j))) m := by simp only [cmpop, eqW_int, Option.map_some, Rwp_some]
@[simp] theorem r_nei {i j : Int} : Rwp (cmpop .ne (.int i) (.int j) m) Q = Q (.bl (!decide (i = j))) m := by simp only [cmpop, eqW_int, Option.map_some, Rwp_some]
@[simp] theorem r_eqs {x y : Tx} : Rwp (cmpop .eq (.str x) (.str y) m) Q = Q (.bl (decide (x = y))) m := by simp only [cmpop, eqW_str, Option.map_some, Rwp_some]
@[simp] theorem r_nes {x y : Tx} : Rwp (cmpop .ne (.str x) (.str y) m) Q = Q (.bl (!decide (x = y))) m := by simp only [cmpop, eqW_str, Option.map_some, Rwp_some]
/-! ### lists in the memory -/
theorem lt_of_at {k : Nat} {o : Ob} (h : m[k]? = some o) : k < m.length := (List.getElem?_eq_some_iff.mp h).1
theorem set_at {k : Nat} {o u : Ob} (h : m[k]? = some o) : (m.set k u)[k]? = some u := List.getElem?_set_self (lt_of_at h)
theorem set_ne {k j : Nat} {u : Ob} (h : k ≠ j) : (m.set k u)[j]? = m[j]? := List.getElem?_set_ne h
theorem app_at {k : Nat} {o : Ob} {g : Mem} (h : m[k]? = some o) : (m ++ g)[k]? = some o := by rw [List.getElem?_append_left (lt_of_at h)]; exact h
theorem app_new {o : Ob} {g : Mem} : (m ++ o :: g)[m.length]? = some o := by rw [List.getElem?_append_right (Nat.le_refl _), Nat.sub_self] <;> rfl
theorem dctAt_lst {k : Nat} {ws : List W} (h : m[k]? = some (.lst ws)) : dctAt m (.obj k) = none := by simp only [dctAt, h]
theorem dctAt_dct {k : Nat} {kvs : List (W × W)} (h : m[k]? = some (.dct kvs)) : dctAt m (.obj k) = some kvs := by simp only [dctAt, h]
theorem seqW_lst {k : Nat} {ws : List W} (h : m[k]? = some (.lst ws)) : seqW m (.obj k) = some ws := by simp only [seqW, h]
theorem r_idxL {k : Nat} {ws : List W} {i : Int} (h : m[k]? = some (.lst ws)) : Rwp (idxW (.obj k) (.int i) m) Q = optP (getI ws i) fun w => Q w m := by
  simp only [idxW, dctAt_lst h, idxS, seqW_lst h]
  exact Rwp_ofO
theorem r_idxD {k : Nat} {kvs : List (W × W)} {u : W} (h : m[k]? = some (.dct kvs)) (hu : isKey u = true) : Rwp (idxW (.obj k) u m) Q = optP (getK kvs u) fun w => Q w m := by
  simp only [idxW, dctAt_dct h, if_pos hu]
  exact Rwp_ofO
@[simp] theorem r_idxT {ws : List W} {i : Int} : Rwp (idxW (.tup ws) (.int i) m) Q = optP (getI ws i) fun w => Q w m := by
  unfold idxW dctAt idxS seqW
  exact Rwp_ofO
@[simp] theorem r_idxF {ns : List Int} {i : Int} : Rwp (idxW (.frz ns) (.int i) m) Q = optP (getI (ns.map W.int) i) fun w => Q w m := by
  unfold idxW dctAt idxS seqW
  exact Rwp_ofO
theorem r_idxX {x : Tx} {i : Int} (h : x.length ≤ SL) : Rwp (idxW (.str x) (.int i) m) Q = optP (getI x i) fun c => Q (.str [c]) m := by
  simp only [idxW, dctAt, idxS, if_pos h]
  cases getI x i <;> rfl
theorem r_sub' {k : Nat} {ws : List W} {i : Int} {w : W} (h : m[k]? = some (.lst ws)) : subW (.obj k) (.int i) w m = (ixI ws.length i).map fun j => m.set k (.lst (ws.set j w)) := by
  simp only [subW, h]
  cases ixI ws.length i <;> rfl
theorem r_fldW {k c f : Nat} {fs : List (Nat × W)} {w : W} (h : m[k]? = some (.ins c fs)) (hz : fs.length < 900) : fldW (.obj k) f w m = some (m.set k (.ins c (putA f w fs))) := by
  simp only [fldW, h, if_pos hz]
@[simp] theorem optP_map {A D : Type} {o : Option A} {f : A → D} {P : D → Prop} : optP (o.map f) P = optP o fun a => P (f a) := by cases o <;> rfl
theorem getI_nat {A : Type} {xs : List A} {i : Int} (h0 : 0 ≤ i) : getI xs i = xs[i.toNat]? := by
  unfold getI ixI
  rw [if_pos h0]
  by_cases h : i < xs.length
  · rw [if_pos h] <;> rfl
  · rw [if_neg h]
    show none = _
    rw [List.getElem?_eq_none]
    omega
theorem ixI_nat {n : Nat} {i : Int} (h0 : 0 ≤ i) (h1 : i < n) : ixI n i = some i.toNat := by
  unfold ixI
  rw [if_pos h0, if_pos h1]
theorem r_lenL {k : Nat} {ws : List W} (h : m[k]? = some (.lst ws)) : Rwp (bltW .len [.obj k] m) Q = Q (.int ws.length) m := by
  simp only [bltW, lenW, dctAt_lst h, seqW_lst h]
  rfl
@[simp] theorem r_lenT {ws : List W} : Rwp (bltW .len [.tup ws] m) Q = Q (.int ws.length) m := rfl
@[simp] theorem r_lenF {ns : List Int} : Rwp (bltW .len [.frz ns] m) Q = Q (.int ns.length) m := by
  show Q (.int ((ns.map W.int).length : Nat)) m = _
  rw [List.length_map]
theorem r_lenX {x : Tx} (h : x.length ≤ SL) : Rwp (bltW .len [.str x] m) Q = Q (.int x.length) m := by
  simp only [bltW, lenW, if_pos h]
  rfl
/-! ### loops -/
/-- what a source says in this memory -/
def Src.sees (s : Src) (m : Mem) (ws : List W) : Prop := ∀ i, s.at i m = some ws[i]?
def enumW (ws : List W) : List W := ws.mapIdx fun i w => .tup [.int i, w]
theorem sees_st {ws : List W} : (Src.one (.st ws)).sees m ws := fun _ => rfl
theorem sees_lv {k : Nat} {ws : List W} (h : m[k]? = some (.lst ws)) : (Src.one (.lv k)).sees m ws := fun i => by simp only [Src.at, Bs.at, h]
theorem sees_est {ws : List W} : (Src.enm (.st ws)).sees m (enumW ws) := fun i => by
  simp only [Src.at, Bs.at, Option.map_some, enumW, List.getElem?_mapIdx]
theorem sees_elv {k : Nat} {ws : List W} (h : m[k]? = some (.lst ws)) : (Src.enm (.lv k)).sees m (enumW ws) := fun i => by
  simp only [Src.at, Bs.at, h, Option.map_some, enumW, List.getElem?_mapIdx]
theorem len_lv {k : Nat} {ws : List W} (h : m[k]? = some (.lst ws)) : (Src.one (.lv k)).len m = ws.length := by simp only [Src.len, Bs.len, h]
theorem len_elv {k : Nat} {ws : List W} (h : m[k]? = some (.lst ws)) : (Src.enm (.lv k)).len m = ws.length := by simp only [Src.len, Bs.len, h]
theorem sees_dk {k : Nat} {kvs : List (W × W)} (h : m[k]? = some (.dcl kvs)) : (Src.one (.dk k)).sees m (kvs.map (·.1)) := fun i => by simp only [Src.at, Bs.at, h, List.getElem?_map]
theorem len_dk {k : Nat} {kvs : List (W × W)} (h : m[k]? = some (.dcl kvs)) : (Src.one (.dk k)).len m = kvs.length := by simp only [Src.len, Bs.len, h]
theorem len_enumW {ws : List W} : (enumW ws).length = ws.length := by simp [enumW]
theorem for_wp {s : Src} {body : W → Env → Mem → RS} {ws : List W} {n : Nat} (P : Nat → Env → Mem → Prop) (hn : ws.length < n) (h0 : P 0 e m) (hv : ∀ i e m, P i e m → s.sees m ws)
    (step : ∀ i x e m, ws[i]? = some x → P i e m → Swp (body x e m) (fun e' m' => P (i + 1) e' m') Rt) (done : ∀ e m, P ws.length e m → N e m) : Swp (forRun s body n 0 e m) N Rt := by
  have go : ∀ (n i : Nat) (e : Env) (m : Mem), ws.length < n + i → i ≤ ws.length → P i e m → Swp (forRun s body n i e m) N Rt := by
    intro n
    induction n with
    | zero => intro i e m h1 h2 _; omega
    | succ n ih =>
      intro i e m h1 h2 p
      unfold forRun
      rw [hv i e m p i]
      by_cases hi : i < ws.length
      · rw [List.getElem?_eq_getElem hi]
        have st := step i ws[i] e m (List.getElem?_eq_getElem hi) p
        dsimp only
        cases q : body ws[i] e m with
        | next e' m' =>
          rw [q] at st
          exact ih (i + 1) e' m' (by omega) hi st
        | ret w m' => rw [q] at st; exact st
        | rse _ _ _ _ => rw [q] at st; exact st
        | bad => rw [q] at st; exact st
      · have e1 : i = ws.length := by omega
        rw [List.getElem?_eq_none (by omega)]
        subst e1
        exact done e m p
  exact go n 0 e m (by omega) (Nat.zero_le _) h0
theorem lc_wp {s : Src} {k : Nat} {body : W → Mem → R (Option W)} {ws : List W} {n : Nat} {P' : Unit → Mem → Prop} (P : Nat → List W → Mem → Prop) (hn : ws.length < n) (hz : ws.length ≤ SL) (h0 : P 0 [] m) (hv : ∀ i acc m, P i acc m → s.sees m ws)
    (step : ∀ i x acc m, ws[i]? = some x → P i acc m → acc.length ≤ i → Rwp (body x m) fun o m' => match o with
      | none => P (i + 1) acc m'
      | some w => m'[k]? = some (.lst acc) ∧ P (i + 1) (acc ++ [w]) (m'.set k (.lst (acc ++ [w])))) (done : ∀ acc m, P ws.length acc m → P' () m) : Rwp (lcRun s k body n 0 m) P' := by
  have go : ∀ (n i : Nat) (acc : List W) (m : Mem), ws.length < n + i → i ≤ ws.length → acc.length ≤ i → P i acc m → Rwp (lcRun s k body n i m) P' := by
    intro n
    induction n with
    | zero => intro i acc m h1 h2 _ _; omega
    | succ n ih =>
      intro i acc m h1 h2 h3 p
      unfold lcRun
      rw [hv i acc m p i]
      by_cases hi : i < ws.length
      · rw [List.getElem?_eq_getElem hi]
        have st := step i ws[i] acc m (List.getElem?_eq_getElem hi) p h3
        dsimp only
        cases q : body ws[i] m with
        | ok o m' =>
          rw [q] at st
          cases o with
          | none => exact ih (i + 1) acc m' (by omega) hi (by omega) st
          | some w =>
            obtain ⟨s1, s2⟩ := st
            dsimp only
            rw [s1]
            dsimp only
            rw [if_pos (by omega)]
            exact ih (i + 1) (acc ++ [w]) _ (by omega) hi (by simp; omega) s2
        | rse _ _ _ => rw [q] at st; exact st.elim
        | bad => rw [q] at st; exact st.elim
      · have e1 : i = ws.length := by omega
        rw [List.getElem?_eq_none (by omega)]
        subst e1
        exact done acc m p
  exact go n 0 [] m (by omega) (Nat.zero_le _) (Nat.zero_le _) h0
/-- elements that leave the memory as it is but for things behind -/
theorem lc_pure {s : Src} {body : W → Mem → R (Option W)} {ws : List W} {n : Nat} {P' : Unit → Mem → Prop} (g : W → Option W) (hn : ws.length < n) (hz : ws.length ≤ SL) (hs : ∀ (acc : List W) (z : Mem), s.sees (m ++ .lst acc :: z) ws)
    (hb : ∀ (i : Nat) (x : W) (acc : List W) (z : Mem) (P : Option W → Mem → Prop), ws[i]? = some x → (∀ z', P (g x) (m ++ .lst acc :: z')) → Rwp (body x (m ++ .lst acc :: z)) P) (done : ∀ z, P' () (m ++ .lst (ws.filterMap g) :: z)) : Rwp (lcRun s m.length body n 0 (m ++ [.lst []])) P' := by
  refine lc_wp (fun i acc m' => acc = (ws.take i).filterMap g ∧ ∃ z, m' = m ++ .lst acc :: z) hn hz ⟨by simp, [], rfl⟩ (fun i acc m' h => by obtain ⟨_, z, rfl⟩ := h; exact hs acc z) (fun i x acc m' hx h hl => ?_) (fun acc m' h => ?_)
  · obtain ⟨ha, z, rfl⟩ := h
    refine hb i x acc z _ hx fun z' => ?_
    have e1 : (ws.take (i + 1)).filterMap g = (ws.take i).filterMap g ++ [x].filterMap g := by
      rw [List.take_add_one, hx, List.filterMap_append] <;> rfl
    cases q : g x with
    | none =>
      refine ⟨?_, z', rfl⟩
      rw [e1, ha]
      simp [q]
    | some w =>
      refine ⟨app_new, ?_, z', ?_⟩
      · rw [e1, ha]
        simp [q]
      · rw [List.set_append_right _ _ (Nat.le_refl _)]
        simp
  · obtain ⟨rfl, z, rfl⟩ := h
    rw [List.take_length]
    exact done z
theorem wh_wp {test : Env → Mem → R Bool} {body : Env → Mem → RS} {n : Nat} (P : Nat → Env → Mem → Prop) (b : Nat) (hb : b < n) (h0 : P b e m)
    (step : ∀ b e m, P b e m → Rwp (test e m) fun t m1 => if t = true then Swp (body e m1) (fun e' m' => ∃ b', b' < b ∧ P b' e' m') Rt else N e m1) : Swp (whRun test body n e m) N Rt := by
  have go : ∀ (n b : Nat) (e : Env) (m : Mem), b < n → P b e m → Swp (whRun test body n e m) N Rt := by
    intro n
    induction n with
    | zero => intro b e m h _; omega
    | succ n ih =>
      intro b e m h p
      unfold whRun
      have st := step b e m p
      cases q : test e m with
      | ok t m1 =>
        rw [q] at st
        cases t with
        | false => exact st
        | true =>
          have st2 : Swp (body e m1) (fun e' m' => ∃ b', b' < b ∧ P b' e' m') Rt := st
          dsimp only
          cases q2 : body e m1 with
          | next e' m' =>
            rw [q2] at st2
            obtain ⟨b', h1, h2⟩ := st2
            exact ih b' e' m' (by omega) h2
          | ret w m' => rw [q2] at st2; exact st2
          | rse _ _ _ _ => rw [q2] at st2; exact st2
          | bad => rw [q2] at st2; exact st2
      | rse _ _ _ => rw [q] at st; exact st.elim
      | bad => rw [q] at st; exact st.elim
  exact go n b e m hb h0
end
end Mi
end

section
set_option Elab.async false
set_option linter.all false
set_option maxRecDepth 100000
set_option maxHeartbeats 4000000
/-! Sp1: the drawing of numbers. -/
namespace Sp
open Mi

theorem sp_mixed {T : Tab} (h : T.fn 6 = some MB.b6_mixed) {n : Nat} (hn : 1 ≤ n) {c k : Int} {m : Mem} {Q : W → Mem → Prop} (hk : 0 ≤ k ∧ k < 2 ^ 40) (hq : ∀ r : Int, 0 ≤ r → r < 2147483563 → Q (.int r) m) : Rwp (callN T n 6 [.int c, .int k] m) Q := by
  obtain ⟨n, rfl⟩ : ∃ k, n = k + 1 := ⟨n - 1, by omega⟩
  refine call_wp h rfl ?_
  simp [MB.b6_mixed]
  obtain ⟨k0, k1⟩ := hk
  refine ⟨.inl ⟨by omega, by omega⟩, .inl ⟨by omega, by omega⟩, .inl ⟨by omega, by omega⟩, .inl ⟨by omega, by omega⟩, ?_⟩
  exact hq _ (Int.emod_nonneg _ (by omega)) (Int.emod_lt_of_pos _ (by omega))
/-- the source of numbers at j -/
def SrcAt (m : Mem) (j : Nat) (k : Int) : Prop := ∃ a c : Int, m[j]? = some (.lst [.int a, .int c, .int k])
theorem sp_take {T : Tab} (h6 : T.fn 6 = some MB.b6_mixed) (h : T.fn 7 = some MB.b7_take) {n : Nat} (hn : 2 ≤ n) {j : Nat} {k mx : Int} {m : Mem} {Q : W → Mem → Prop} (hs : SrcAt m j k) (hk : 0 ≤ k ∧ k < 2 ^ 39) (hm : 0 < mx ∧ mx < 2 ^ 60)
    (hq : ∀ (r a c k' : Int), 0 ≤ r → r < mx → k ≤ k' → k' ≤ k + 1 → Q (.int r) (m.set j (.lst [.int a, .int c, .int k']))) : Rwp (callN T n 7 [.obj j, .int mx] m) Q := by
  obtain ⟨n, rfl⟩ : ∃ k, n = k + 1 := ⟨n - 1, by omega⟩
  obtain ⟨a, c, hs⟩ := hs
  have hlt := lt_of_at hs
  refine call_wp h rfl ?_
  simp [MB.b7_take, r_idxL hs, r_sub' hs, getI, ixI]
  split
  · refine ⟨hm.1, ⟨hm.1, by omega⟩, hq _ _ _ _ (Int.emod_nonneg _ (by omega)) (Int.emod_lt_of_pos _ (by omega)) (by omega) (by omega)⟩
  · have hs2 : (m.set j (.lst [.int a, .int c, .int (k + 1)]))[j]? = some (.lst [.int a, .int c, .int (k + 1)]) := set_at hs
    simp [r_idxL hs2, getI, ixI]
    refine sp_mixed h6 (by omega) (by omega) fun r r0 r1 => ?_
    simp
    exact ⟨hm.1, hq _ _ _ _ (Int.emod_nonneg _ (by omega)) (Int.emod_lt_of_pos _ (by omega)) (by omega) (by omega)⟩
theorem set_src {m : Mem} {j : Nat} {k a c k' : Int} (hs : SrcAt m j k) : SrcAt (m.set j (.lst [.int a, .int c, .int k'])) j k' := by
  obtain ⟨_, _, h⟩ := hs
  exact ⟨a, c, set_at h⟩
/-- an item of a list -/
theorem sp_oneL {T : Tab} (h6 : T.fn 6 = some MB.b6_mixed) (h7 : T.fn 7 = some MB.b7_take) (h : T.fn 8 = some MB.b8_one) {n : Nat} (hn : 3 ≤ n) {j l : Nat} {k : Int} {m : Mem} {ws : List W} {Q : W → Mem → Prop} (hs : SrcAt m j k) (hk : 0 ≤ k ∧ k < 2 ^ 39) (hl : m[l]? = some (.lst ws)) (hne : ws ≠ []) (hz : ws.length < 2 ^ 60) (hjl : j ≠ l)
    (hq : ∀ (w : W) (a c k' : Int), w ∈ ws → k ≤ k' → k' ≤ k + 1 → Q w (m.set j (.lst [.int a, .int c, .int k']))) : Rwp (callN T n 8 [.obj j, .obj l] m) Q := by
  obtain ⟨n, rfl⟩ : ∃ k, n = k + 1 := ⟨n - 1, by omega⟩
  refine call_wp h rfl ?_
  simp [MB.b8_one, r_lenL hl]
  have hp : 0 < ws.length := List.length_pos_iff.mpr hne
  refine sp_take h6 h7 (by omega) hs hk (by omega) fun r a c k' r0 r1 k0 k1 => ?_
  have hl2 : (m.set j (.lst [.int a, .int c, .int k']))[l]? = some (.lst ws) := by rw [set_ne hjl]; exact hl
  rw [r_idxL hl2, getI_nat r0]
  have hr : r.toNat < ws.length := by omega
  rw [List.getElem?_eq_getElem hr]
  exact hq _ _ _ _ (List.getElem_mem hr) k0 k1
/-- a sign of a text -/
theorem sp_oneX {T : Tab} (h6 : T.fn 6 = some MB.b6_mixed) (h7 : T.fn 7 = some MB.b7_take) (h : T.fn 8 = some MB.b8_one) {n : Nat} (hn : 3 ≤ n) {j : Nat} {k : Int} {m : Mem} {x : Tx} {Q : W → Mem → Prop} (hs : SrcAt m j k) (hk : 0 ≤ k ∧ k < 2 ^ 39) (hne : x ≠ []) (hz : x.length ≤ SL)
    (hq : ∀ (d : Char) (a c k' : Int), d ∈ x → k ≤ k' → k' ≤ k + 1 → Q (.str [d]) (m.set j (.lst [.int a, .int c, .int k']))) : Rwp (callN T n 8 [.obj j, .str x] m) Q := by
  obtain ⟨n, rfl⟩ : ∃ k, n = k + 1 := ⟨n - 1, by omega⟩
  refine call_wp h rfl ?_
  simp [MB.b8_one, r_lenX hz]
  have hp : 0 < x.length := List.length_pos_iff.mpr hne
  have hz' : x.length ≤ 16777216 := hz
  refine sp_take h6 h7 (by omega) hs hk (by omega) fun r a c k' r0 r1 k0 k1 => ?_
  rw [r_idxX hz, getI_nat r0]
  have hr : r.toNat < x.length := by omega
  rw [List.getElem?_eq_getElem hr]
  exact hq _ _ _ _ (List.getElem_mem hr) k0 k1
theorem sp_source {T : Tab} (h : T.fn 10 = some MB.b10_source) {n : Nat} (hn : 1 ≤ n) {c : Int} {m : Mem} {Q : W → Mem → Prop} (hq : Q (.obj m.length) (m ++ [.lst [.int c, .int c, .int 0]])) : Rwp (callN T n 10 [.int c] m) Q := by
  obtain ⟨n, rfl⟩ : ∃ k, n = k + 1 := ⟨n - 1, by omega⟩
  refine call_wp h rfl ?_
  simpa [MB.b10_source] using hq
end Sp
end

section
set_option Elab.async false
set_option linter.all false
set_option maxRecDepth 100000
set_option maxHeartbeats 4000000
/-! Sp2: the texts of a floor. -/
namespace Sp
open Mi

/-- all else stands: behind m0, but for the source at j -/
def Frm (m0 : Mem) (j : Nat) (m : Mem) : Prop := m0.length ≤ m.length ∧ ∀ l, l < m0.length → l ≠ j → m[l]? = m0[l]?
theorem Frm.refl (m : Mem) (j : Nat) : Frm m j m := ⟨Nat.le_refl _, fun _ _ _ => rfl⟩
theorem Frm.trans {m0 m1 m2 : Mem} {j : Nat} (a : Frm m0 j m1) (b : Frm m1 j m2) : Frm m0 j m2 := ⟨Nat.le_trans a.1 b.1, fun l h1 h2 => (b.2 l (Nat.lt_of_lt_of_le h1 a.1) h2).trans (a.2 l h1 h2)⟩
theorem Frm.setj {m0 m : Mem} {j : Nat} {o : Ob} (a : Frm m0 j m) : Frm m0 j (m.set j o) := ⟨by simpa using a.1, fun l h1 h2 => by rw [List.getElem?_set_ne (Ne.symm h2)]; exact a.2 l h1 h2⟩
theorem Frm.set {m0 m : Mem} {j l : Nat} {o : Ob} (a : Frm m0 j m) (h : m0.length ≤ l) : Frm m0 j (m.set l o) := ⟨by simpa using a.1, fun i h1 h2 => by rw [List.getElem?_set_ne (by omega)]; exact a.2 i h1 h2⟩
theorem Frm.app {m0 m g : Mem} {j : Nat} (a : Frm m0 j m) : Frm m0 j (m ++ g) := ⟨by rw [List.length_append]; have := a.1; omega, fun l h1 h2 => by rw [List.getElem?_append_left (by have := a.1; omega)]; exact a.2 l h1 h2⟩
theorem Frm.at {m0 m : Mem} {j l : Nat} {o : Ob} (a : Frm m0 j m) (h : m0[l]? = some o) (hl : l ≠ j) : m[l]? = some o := (a.2 l (lt_of_at h) hl).trans h
theorem SrcAt.app {m g : Mem} {j : Nat} {k : Int} (h : SrcAt m j k) : SrcAt (m ++ g) j k := let ⟨a, c, h⟩ := h; ⟨a, c, app_at h⟩
theorem SrcAt.set {m : Mem} {j l : Nat} {k : Int} {o : Ob} (h : SrcAt m j k) (hl : l ≠ j) : SrcAt (m.set l o) j k := let ⟨a, c, h⟩ := h; ⟨a, c, by rw [set_ne hl]; exact h⟩
theorem SrcAt.lt {m : Mem} {j : Nat} {k : Int} (h : SrcAt m j k) : j < m.length := let ⟨_, _, h⟩ := h; lt_of_at h
/-- a row of signs -/
def GoodRow (X : Tx) (n : Nat) (ws : List W) : Prop := ws.length = n ∧ ∀ w ∈ ws, ∃ c, w = .str [c] ∧ c ∈ X
theorem GoodRow.set {X : Tx} {n i : Nat} {ws : List W} {c : Char} (h : GoodRow X n ws) (hc : c ∈ X) : GoodRow X n (ws.set i (.str [c])) := ⟨by simp [h.1], fun w hw => by
  rcases List.mem_or_eq_of_mem_set hw with h1 | rfl
  · exact h.2 w h1
  · exact ⟨c, rfl, hc⟩⟩
structure TexOk (T : Tab) : Prop where
  t6 : T.fn 6 = some MB.b6_mixed
  t7 : T.fn 7 = some MB.b7_take
  t8 : T.fn 8 = some MB.b8_one
  t9 : T.fn 9 = some MB.b9_texts
/-- [one(src, signs) for _ in range(along)] -/
theorem sp_row {T : Tab} (K : TexOk T) {n : Nat} (hn : 3 ≤ n) {e : Env} {m : Mem} {j is ia iv : Nat} {k : Int} {X : Tx} {a : Nat} {Q : W → Mem → Prop} (h0 : e[is]? = some (some (.obj j))) (hX : e[ia]? = some (some (.str X))) {al : Nat} {A : Int} (hal : e[al]? = some (some (.int A))) (hA : A = (a : Nat)) (v1 : is ≠ iv) (v2 : ia ≠ iv)
    (hs : SrcAt m j k) (hk : 0 ≤ k) (hk2 : k + a < 2 ^ 39) (hne : X ≠ []) (hz : X.length ≤ SL) (ha : a ≤ 1000)
    (hq : ∀ (row : List W) (k' : Int) (m' : Mem), GoodRow X a row → k ≤ k' → k' ≤ k + a → SrcAt m' j k' → Frm m j m' → m'.length = m.length + 1 → m'[m.length]? = some (.lst row) → Q (.obj m.length) m') :
    Rwp (ev T (callN T n) (.lc [iv] (.call 8 (.cons (.var is) (.cons (.var ia) .nil))) (.nm iv) (.rng (.cons (.var al) .nil)) .nil) e m) Q := by
  subst hA
  rw [w_lc]
  simp [hal, rngW]
  rw [if_pos (by omega)]
  simp
  have hjm := hs.lt
  refine lc_wp (ws := (List.range a).map fun (i : Nat) => W.int i) (fun i acc m' => ∃ k', SrcAt m' j k' ∧ k ≤ k' ∧ k' ≤ k + i ∧ Frm m j m' ∧ m'.length = m.length + 1 ∧ m'[m.length]? = some (.lst acc) ∧ GoodRow X i acc)
    (by simp [Src.len, Bs.len]) (by simp [SL]; omega) ⟨k, hs.app, by omega, by omega, (Frm.refl m j).app, by simp, app_new, rfl, fun w hw => absurd hw (by simp)⟩ (fun i acc m' h => sees_st) (fun i x acc m' hx h hl => ?_) (fun acc m' h => ?_)
  · obtain ⟨k', s1, s2, s3, s4, s5, s6, s7⟩ := h
    have hi : i < a := by have := (List.getElem?_eq_some_iff.mp hx).1; simpa using this
    unfold lcB1
    simp [asgT, wipeE]
    have g0 : ((e.set iv none).set iv (some x))[is]? = some (some (.obj j)) := by rw [List.getElem?_set_ne (Ne.symm v1), List.getElem?_set_ne (Ne.symm v1)]; exact h0
    have g1 : ((e.set iv none).set iv (some x))[ia]? = some (some (.str X)) := by rw [List.getElem?_set_ne (Ne.symm v2), List.getElem?_set_ne (Ne.symm v2)]; exact hX
    simp only [List.set_set] at g0 g1
    simp [g0, g1]
    refine sp_oneX K.t6 K.t7 K.t8 hn s1 ⟨by omega, by omega⟩ hne hz fun d a' c k2 hd h1 h2 => ?_
    have hmj : m.length ≠ j := by omega
    refine ⟨by rw [set_ne (Ne.symm hmj)]; exact s6, k2, (set_src s1).set hmj, by omega, by omega, s4.setj.set (Nat.le_refl _), by simp [s5], set_at (o := .lst acc) (by rw [set_ne (Ne.symm hmj)]; exact s6), ?_⟩
    refine ⟨by simp [s7.1], fun w hw => ?_⟩
    rcases List.mem_append.mp hw with h | h
    · exact s7.2 w h
    · exact ⟨d, by simpa using h, hd⟩
  · obtain ⟨k', s1, s2, s3, s4, s5, s6, s7⟩ := h
    simp only [List.length_map, List.length_range] at s3 s7
    exact hq acc k' m' s7 s2 s3 s1 s4 s5 s6
theorem GoodRow.txt {X : Tx} {n : Nat} : ∀ {ws : List W}, GoodRow X n ws → ∃ t : Tx, t.length = n ∧ (∀ c ∈ t, c ∈ X) ∧ ws = t.map fun c => W.str [c] := fun {ws} h => by
  obtain ⟨h1, h2⟩ := h
  induction ws generalizing n with
  | nil => exact ⟨[], h1, fun c hc => (by cases hc), rfl⟩
  | cons w ws ih =>
    obtain ⟨t, t1, t2, t3⟩ := ih (n := ws.length) rfl fun w hw => h2 w (List.mem_cons_of_mem _ hw)
    obtain ⟨c, rfl, hc⟩ := h2 w List.mem_cons_self
    refine ⟨c :: t, by simp [t1, ← h1], fun d hd => ?_, by simp [t3]⟩
    rcases List.mem_cons.mp hd with rfl | hd
    · exact hc
    · exact t2 d hd
theorem strL_ones : ∀ t : Tx, strL (t.map fun c => W.str [c]) = some (t.map fun c => [c])
  | [] => rfl
  | c :: t => by
    have ih := strL_ones t
    unfold strL at ih ⊢
    simp only [List.map_cons, optL, ih]
theorem joinT_ones : ∀ t : Tx, joinT [] (t.map fun c => [c]) = t
  | [] => rfl
  | [c] => rfl
  | c :: d :: t => by
    have ih := joinT_ones (d :: t)
    simp only [List.map_cons, joinT] at ih ⊢
    rw [ih]
    rfl
theorem r_joinO {m : Mem} {p : Nat} {t : Tx} {Q : W → Mem → Prop} (h : m[p]? = some (.lst (t.map fun c => W.str [c]))) (hz : t.length ≤ SL) : Rwp (bmW .join (.str []) [.obj p] m) Q = Q (.str t) m := by
  have hz' : t.length ≤ 16777216 := hz
  have hs : ((t.map fun c => [c]).map List.length).sum + (t.map fun c => [c]).length * ([] : Tx).length ≤ 16777216 := by
    have e : ((t.map fun c => [c]).map List.length).sum = t.length := by
      clear hz hz' h
      induction t with
      | nil => rfl
      | cons c t ih =>
        simp only [List.map_cons, List.sum_cons, List.length_cons, ih, List.length_nil]
        omega
    rw [e]
    simpa using hz'
  simp only [bmW, seqW_lst h, strL_ones, if_pos hs, joinT_ones]
  rfl
def signs7 : List Tx := [['.', '.', '.', '.', '~', '~', '~', '#', 'x', 'a', 'b', 'c', 'd'], ['~', '~', '~', '~', '.', '#', 'a', 'b'], ['.', '.', '.', '.', '.', '.'], ['.', '.', '~', '#', 'c', 'd', '#'], ['~', '~', '~', '.', 'x', '#'], ['.', 'a', 'b', '.', 'c', 'd'], ['.', '.', '.', '.', '#']]
def signsX : Tx := ['#', '~', 'x', '.', 'a', 'b', 'c', 'd']
theorem signs7_ok : ∀ X ∈ signs7, X ≠ [] ∧ X.length ≤ 20 ∧ ∀ c ∈ X, c ∈ signsX := by
  intro X hX
  simp only [signs7, List.mem_cons, List.not_mem_nil, or_false] at hX
  rcases hX with rfl | rfl | rfl | rfl | rfl | rfl | rfl <;> simp [signsX]
/-- the texts of a floor -/
def Texts (Ts : List Tx) (hi wi : Nat) : Prop := ∃ h w : Nat, 0 < h ∧ h ≤ hi ∧ 0 < w ∧ w ≤ wi ∧ Ts.length = h ∧ ∀ t ∈ Ts, t.length = w ∧ ∀ c ∈ t, c ∈ signsX
/-- [[..] for _ in range(down)] -/
theorem sp_cells {T : Tab} (K : TexOk T) {n : Nat} (hn : 3 ≤ n) {e : Env} {m : Mem} {j is ia al iv dn jv : Nat} {k : Int} {X : Tx} {a d : Nat} {Q : W → Mem → Prop} (h0 : e[is]? = some (some (.obj j))) (hX : e[ia]? = some (some (.str X))) {A D : Int} (hal : e[al]? = some (some (.int A))) (hdn : e[dn]? = some (some (.int D))) (hA : A = (a : Nat)) (hD : D = (d : Nat))
    (v1 : is ≠ iv) (v2 : ia ≠ iv) (v3 : is ≠ jv) (v4 : ia ≠ jv) (v5 : al ≠ jv) (hs : SrcAt m j k) (hk : 0 ≤ k) (hk2 : k + 1000 * d < 2 ^ 38) (hne : X ≠ []) (hz : X.length ≤ SL) (ha : a ≤ 1000) (hd : d ≤ 1000)
    (hq : ∀ (acc : List W) (k' : Int) (m' : Mem), acc.length = d → (∀ w ∈ acc, ∃ p row, w = .obj p ∧ m.length < p ∧ m'[p]? = some (.lst row) ∧ GoodRow X a row) → k ≤ k' → k' ≤ k + 1000 * d → SrcAt m' j k' → Frm m j m' → m'[m.length]? = some (.lst acc) → Q (.obj m.length) m') :
    Rwp (ev T (callN T n) (.lc [jv] (.lc [iv] (.call 8 (.cons (.var is) (.cons (.var ia) .nil))) (.nm iv) (.rng (.cons (.var al) .nil)) .nil) (.nm jv) (.rng (.cons (.var dn) .nil)) .nil) e m) Q := by
  subst hA hD
  rw [w_lc]
  simp [hdn, rngW]
  rw [if_pos (by omega)]
  try simp
  have hjm := hs.lt
  refine lc_wp (ws := (List.range d).map fun (i : Nat) => W.int i) (fun i acc m' => ∃ k', SrcAt m' j k' ∧ k ≤ k' ∧ k' ≤ k + 1000 * i ∧ Frm m j m' ∧ m'[m.length]? = some (.lst acc) ∧ acc.length = i ∧ ∀ w ∈ acc, ∃ p row, w = .obj p ∧ m.length < p ∧ m'[p]? = some (.lst row) ∧ GoodRow X a row)
    (by simp [Src.len, Bs.len]) (by simp [SL]; omega) ⟨k, hs.app, by omega, by omega, (Frm.refl m j).app, app_new, rfl, fun w hw => absurd hw (by simp)⟩ (fun i acc m' h => sees_st) (fun i x acc m' hx h hl => ?_) (fun acc m' h => ?_)
  · obtain ⟨k', s1, s2, s3, s4, s5, s6, s7⟩ := h
    have hi : i < d := by have := (List.getElem?_eq_some_iff.mp hx).1; simpa using this
    unfold lcB1
    simp only [asgT, wipeE, List.set_set, wt_nil, Rwp_bind, if_true]
    have g0 : (e.set jv (some x))[is]? = some (some (.obj j)) := by rw [List.getElem?_set_ne (Ne.symm v3)]; exact h0
    have g1 : (e.set jv (some x))[ia]? = some (some (.str X)) := by rw [List.getElem?_set_ne (Ne.symm v4)]; exact hX
    have g2 : (e.set jv (some x))[al]? = some (some (.int (a : Nat))) := by rw [List.getElem?_set_ne (Ne.symm v5)]; exact hal
    refine sp_row K hn g0 g1 g2 rfl v1 v2 s1 (by omega) (by omega) hne hz ha fun row k2 m2 hr h1 h2 h3 h4 h5 h6 => ?_
    have hml : m.length < m'.length := lt_of_at s5
    have hmj : m.length ≠ j := by omega
    have h7 : m2[m.length]? = some (.lst acc) := h4.at s5 hmj
    refine ⟨h7, k2, h3.set hmj, by omega, by omega, (s4.trans h4).set (Nat.le_refl _), set_at h7, by simp [s6], fun w hw => ?_⟩
    rcases List.mem_append.mp hw with h | h
    · obtain ⟨p, row', e1, e2, e3, e4⟩ := s7 w h
      refine ⟨p, row', e1, e2, ?_, e4⟩
      rw [set_ne (by omega)]
      exact h4.at e3 (by omega)
    · have e1 : w = .obj m'.length := by simpa using h
      exact ⟨m'.length, row, e1, hml, by rw [set_ne (by omega)]; exact h6, hr⟩
  · obtain ⟨k', s1, s2, s3, s4, s5, s6, s7⟩ := h
    simp only [List.length_map, List.length_range] at s3 s6
    exact hq acc k' m' s6 s7 s2 s3 s1 s4 s5
structure JoinInv (m8 : Mem) (acc : List W) (p0 a i : Nat) (ac : List W) (m' : Mem) : Prop where
  ex : ∃ (z : Mem) (Ts : List Tx), m' = m8 ++ .lst ac :: z ∧ ac = Ts.map W.str ∧ Ts.length = i ∧ (∀ t ∈ Ts, t.length = a ∧ ∀ c ∈ t, c ∈ signsX) ∧ ∀ j, j < i → acc[j]? = some (.obj p0) → ∃ t ∈ Ts, ∃ c ∈ t, c ∈ (['.', 'a'] : Tx)
theorem sp_texts2 {T : Tab} (K : TexOk T) {n : Nat} (hn : 4 ≤ n) {m : Mem} {j : Nat} {k : Int} {hi wi : Nat} {Q : W → Mem → Prop} (hs : SrcAt m j k) (hk : 0 ≤ k ∧ k < 2 ^ 36) (h1 : 0 < hi ∧ hi ≤ 1000) (h2 : 0 < wi ∧ wi ≤ 1000)
    (hq : ∀ (Ts : List Tx) (p : Nat) (k' : Int) (m' : Mem), Texts Ts hi wi → (∃ t ∈ Ts, ∃ c ∈ t, c ∈ (['.', 'a'] : Tx)) → m.length ≤ p → m'[p]? = some (.lst (Ts.map W.str)) → k ≤ k' → k' ≤ k + 2000000 → SrcAt m' j k' → Frm m j m' → Q (.obj p) m') : Rwp (callN T n 9 [.obj j, .int hi, .int wi] m) Q := by
  obtain ⟨n, rfl⟩ : ∃ k, n = k + 1 := ⟨n - 1, by omega⟩
  refine call_wp K.t9 rfl ?_
  have hjm := hs.lt
  simp [MB.b9_texts]
  refine sp_take K.t6 K.t7 (by omega) hs ⟨by omega, by omega⟩ ⟨by omega, by omega⟩ fun r1 a1 c1 k1 r10 r11 k10 k11 => ?_
  have s1 := set_src (a := a1) (c := c1) (k' := k1) hs
  have f1 : Frm m j _ := (Frm.refl m j).setj (o := .lst [.int a1, .int c1, .int k1])
  generalize m.set j (.lst [.int a1, .int c1, .int k1]) = m1 at s1 f1 ⊢
  obtain ⟨d, hd⟩ : ∃ d : Nat, 1 + r1 = (d : Int) := ⟨(1 + r1).toNat, by omega⟩
  simp
  refine sp_take K.t6 K.t7 (by omega) s1 ⟨by omega, by omega⟩ ⟨by omega, by omega⟩ fun r2 a2 c2 k2 r20 r21 k20 k21 => ?_
  have s2 := set_src (a := a2) (c := c2) (k' := k2) s1
  have f2 := f1.setj (o := .lst [.int a2, .int c2, .int k2])
  generalize m1.set j (.lst [.int a2, .int c2, .int k2]) = m2 at s2 f2 ⊢
  obtain ⟨a, ha⟩ : ∃ a : Nat, 1 + r2 = (a : Int) := ⟨(1 + r2).toNat, by omega⟩
  simp [asgT, asgL]
  have hj2 := s2.lt
  refine sp_oneL (ws := signs7.map W.str) K.t6 K.t7 K.t8 (by omega) s2.app ⟨by omega, by omega⟩ app_new (by simp [signs7]) (by simp [signs7]) (by omega) fun w a3 c3 k3 hw k30 k31 => ?_
  have hw2 := List.mem_map.mp hw
  obtain ⟨X, hX, hXe⟩ := hw2
  subst hXe
  have X1 := signs7_ok X hX
  have s3 := set_src (a := a3) (c := c3) (k' := k3) (s2.app (g := [.lst (signs7.map W.str)]))
  have f3 := (f2.app (g := [.lst (signs7.map W.str)])).setj (o := .lst [.int a3, .int c3, .int k3])
  have e7 : (m2 ++ [Ob.lst [W.str ['.', '.', '.', '.', '~', '~', '~', '#', 'x', 'a', 'b', 'c', 'd'], W.str ['~', '~', '~', '~', '.', '#', 'a', 'b'], W.str ['.', '.', '.', '.', '.', '.'], W.str ['.', '.', '~', '#', 'c', 'd', '#'], W.str ['~', '~', '~', '.', 'x', '#'], W.str ['.', 'a', 'b', '.', 'c', 'd'], W.str ['.', '.', '.', '.', '#']]]).set j (.lst [.int a3, .int c3, .int k3]) = (m2 ++ [Ob.lst (signs7.map W.str)]).set j (.lst [.int a3, .int c3, .int k3]) := rfl
  rw [e7]
  generalize (m2 ++ [Ob.lst (signs7.map W.str)]).set j (.lst [.int a3, .int c3, .int k3]) = m3 at s3 f3 ⊢
  refine sp_cells K (by omega) (j := j) (X := X) (a := a) (d := d) (by rfl) (by rfl) (by rfl) (by rfl) ha hd (by decide) (by decide) (by decide) (by decide) (by decide) s3 (by omega) (by omega) X1.1 (by simp only [SL]; omega) (by omega) (by omega) fun acc k4 m4 hacc hrows k40 k41 s4 f4 h4 => ?_
  have f4' := f3.trans f4
  have hj3 := s3.lt
  have hj4 := s4.lt
  have hl34 : m3.length < m4.length := lt_of_at h4
  -- the open place
  refine sp_oneL (ws := [.str ['.'], .str ['a']]) K.t6 K.t7 K.t8 (by omega) s4.app ⟨by omega, by omega⟩ app_new (by simp) (by simp) (by omega) fun w a5 c5 k5 hw k50 k51 => ?_
  obtain ⟨cc, rfl, hcc, hcc2⟩ : ∃ cc, w = .str [cc] ∧ cc ∈ signsX ∧ cc ∈ (['.', 'a'] : Tx) := by
    rcases List.mem_cons.mp hw with rfl | hw
    · exact ⟨'.', rfl, by decide, by decide⟩
    · exact ⟨'a', by simpa using hw, by decide, by decide⟩
  have s5 := set_src (a := a5) (c := c5) (k' := k5) (s4.app (g := [.lst [.str ['.'], .str ['a']]]))
  have f5 := (f4'.app (g := [.lst [.str ['.'], .str ['a']]])).setj (o := .lst [.int a5, .int c5, .int k5])
  have rows5 : ∀ (p : Nat) (o : Ob), m4[p]? = some o → p ≠ j → (List.set (m4 ++ [Ob.lst [.str ['.'], .str ['a']]]) j (.lst [.int a5, .int c5, .int k5]))[p]? = some o := fun p o h hp => by rw [set_ne (Ne.symm hp)]; exact app_at h
  generalize List.set (m4 ++ [Ob.lst [.str ['.'], .str ['a']]]) j (.lst [.int a5, .int c5, .int k5]) = m5 at s5 f5 rows5 ⊢
  have hp0 : 0 < d := by omega
  have ha0 : 0 < a := by omega
  refine sp_take K.t6 K.t7 (by omega) s5 ⟨by omega, by omega⟩ ⟨by omega, by omega⟩ fun r6 a6 c6 k6 r60 r61 k60 k61 => ?_
  have s6 := set_src (a := a6) (c := c6) (k' := k6) s5
  have f6 := f5.setj (o := .lst [.int a6, .int c6, .int k6])
  have rows6 : ∀ (p : Nat) (o : Ob), m4[p]? = some o → p ≠ j → (List.set m5 j (.lst [.int a6, .int c6, .int k6]))[p]? = some o := fun p o h hp => by rw [set_ne (Ne.symm hp)]; exact rows5 p o h hp
  generalize List.set m5 j (.lst [.int a6, .int c6, .int k6]) = m6 at s6 f6 rows6 ⊢
  rw [r_idxL (rows6 _ _ h4 (by omega)), getI_nat r60]
  have hr6 : r6.toNat < acc.length := by omega
  rw [List.getElem?_eq_getElem hr6, optP_some]
  obtain ⟨p0, row0, e0, lp0, hm0, g0⟩ := hrows _ (List.getElem_mem hr6)
  rw [e0]
  refine sp_take K.t6 K.t7 (by omega) s6 ⟨by omega, by omega⟩ ⟨by omega, by omega⟩ fun r7 a7 c7 k7 r70 r71 k70 k71 => ?_
  have s7 := set_src (a := a7) (c := c7) (k' := k7) s6
  have f7 := f6.setj (o := .lst [.int a7, .int c7, .int k7])
  have rows7 : ∀ (p : Nat) (o : Ob), m4[p]? = some o → p ≠ j → (List.set m6 j (.lst [.int a7, .int c7, .int k7]))[p]? = some o := fun p o h hp => by rw [set_ne (Ne.symm hp)]; exact rows6 p o h hp
  generalize List.set m6 j (.lst [.int a7, .int c7, .int k7]) = m7 at s7 f7 rows7 ⊢
  rw [r_sub' (rows7 _ _ hm0 (by omega)), ixI_nat r70 (by rw [g0.1]; omega)]
  simp only [Option.map_some, optP_some]
  have hlm : m.length ≤ m3.length := f3.1
  have s8 := s7.set (l := p0) (o := .lst (row0.set r7.toNat (.str [cc]))) (by omega)
  have f8 := f7.set (l := p0) (o := .lst (row0.set r7.toNat (.str [cc]))) (by omega)
  -- each row is still one
  have rows8 : ∀ w ∈ acc, ∃ (p : Nat) (t : Tx), w = .obj p ∧ m3.length < p ∧ (List.set m7 p0 (.lst (row0.set r7.toNat (.str [cc]))))[p]? = some (.lst (t.map fun c => W.str [c])) ∧ t.length = a ∧ (∀ c ∈ t, c ∈ signsX) ∧ (p = p0 → ∃ c ∈ t, c ∈ (['.', 'a'] : Tx)) := by
    intro w hw
    obtain ⟨p, row, e1, e2, e3, e4⟩ := hrows w hw
    by_cases hp : p = p0
    · subst hp
      have g1 : GoodRow signsX a (row0.set r7.toNat (.str [cc])) := GoodRow.set ⟨g0.1, fun w hw => by obtain ⟨c, h1, h2⟩ := g0.2 w hw; exact ⟨c, h1, X1.2.2 c h2⟩⟩ hcc
      obtain ⟨t, t1, t2, t3⟩ := g1.txt
      refine ⟨p, t, e1, e2, by rw [set_at (rows7 _ _ hm0 (by omega)), t3], t1, t2, fun _ => ⟨cc, ?_, hcc2⟩⟩
      have hlt : r7.toNat < row0.length := by have := g0.1; omega
      have hmem : W.str [cc] ∈ row0.set r7.toNat (.str [cc]) := List.mem_iff_getElem?.mpr ⟨r7.toNat, by rw [List.getElem?_set_self hlt]⟩
      rw [t3] at hmem
      obtain ⟨d, hd, ed⟩ := List.mem_map.mp hmem
      simp at ed
      rw [← ed]
      exact hd
    · obtain ⟨t, t1, t2, t3⟩ := e4.txt
      exact ⟨p, t, e1, e2, by rw [set_ne (Ne.symm hp), rows7 _ _ e3 (by omega), t3], t1, fun c hc => X1.2.2 c (t2 c hc), fun e => absurd e hp⟩
  have h8 : (List.set m7 p0 (.lst (row0.set r7.toNat (.str [cc]))))[m3.length]? = some (.lst acc) := by rw [set_ne (by omega)]; exact rows7 _ _ h4 (by omega)
  generalize List.set m7 p0 (.lst (row0.set r7.toNat (.str [cc]))) = m8 at s8 f8 rows8 h8 ⊢
  -- the texts
  rw [w_lc]
  simp [srcOf, h8]
  have hl8 : m3.length < m8.length := lt_of_at h8
  refine lc_wp (ws := acc) (JoinInv m8 acc p0 a) (by rw [len_lv h8]; omega) (by simp only [SL]; omega) ⟨[], [], rfl, rfl, rfl, fun t ht => (by cases ht), fun j hj => by omega⟩
    (fun i ac m' h => by obtain ⟨z, Ts, rfl, _⟩ := h.ex; exact sees_lv (app_at h8)) (fun i x ac m' hx h hl => ?_) (fun ac m' h => ?_)
  · obtain ⟨z, Ts, rfl, rfl, hT, hg, hpp⟩ := h.ex
    obtain ⟨p, t, rfl, e2, e3, e4, e5, e6⟩ := rows8 x (List.mem_of_getElem? hx)
    unfold lcB1
    simp [asgT, wipeE, rcvOk, isStrW]
    rw [r_joinO (app_at e3) (by simp only [SL]; omega)]
    refine ⟨app_new, ⟨z, Ts ++ [t], ?_, by simp, by simp [hT], fun u hu => ?_, fun j' hj' hat => ?_⟩⟩
    · rw [List.set_append_right _ _ (Nat.le_refl _)]
      simp
    · rcases List.mem_append.mp hu with h | h
      · exact hg u h
      · have e : u = t := by simpa using h
        subst e
        exact ⟨e4, e5⟩
    · by_cases hij : j' = i
      · subst hij
        rw [hx] at hat
        obtain ⟨c, hc, hc2⟩ := e6 (by simpa using hat)
        exact ⟨t, by simp, c, hc, hc2⟩
      · obtain ⟨u, hu, q⟩ := hpp j' (by omega) hat
        exact ⟨u, by simp [hu], q⟩
  · obtain ⟨z, Ts, rfl, rfl, hT, hg, hpp⟩ := h.ex
    exact hq Ts m8.length k7 _ ⟨d, a, hp0, by omega, ha0, by omega, by omega, hg⟩ (hpp r6.toNat hr6 (by rw [List.getElem?_eq_getElem hr6, e0])) f8.1 app_new (by omega) (by omega) s8.app f8.app
theorem sp_texts {T : Tab} (K : TexOk T) {n : Nat} (hn : 4 ≤ n) {m : Mem} {j : Nat} {k : Int} {hi wi : Nat} {Q : W → Mem → Prop} (hs : SrcAt m j k) (hk : 0 ≤ k ∧ k < 2 ^ 36) (h1 : 0 < hi ∧ hi ≤ 1000) (h2 : 0 < wi ∧ wi ≤ 1000)
    (hq : ∀ (Ts : List Tx) (p : Nat) (k' : Int) (m' : Mem), Texts Ts hi wi → m.length ≤ p → m'[p]? = some (.lst (Ts.map W.str)) → k ≤ k' → k' ≤ k + 2000000 → SrcAt m' j k' → Frm m j m' → Q (.obj p) m') : Rwp (callN T n 9 [.obj j, .int hi, .int wi] m) Q :=
  sp_texts2 K hn hs hk h1 h2 fun Ts p k' m' hT _ => hq Ts p k' m' hT
end Sp
end

section
set_option Elab.async false
set_option linter.all false
set_option maxRecDepth 100000
set_option maxHeartbeats 4000000
/-! Sp3: a floor. -/
namespace Sp
open Mi

/-- what a floor's defs need of the table -/
structure FlOk (T : Tab) (C : Cl) : Prop where
  t3 : T.fn 3 = some MB.b3_is_text
  t4 : T.fn 4 = some MB.b4_want_rows
  t5 : T.fn 5 = some MB.b5_Floor__init
  t12 : T.fn 12 = some MB.b12_Floor_sign
  t13 : T.fn 13 = some MB.b13_next_to
  t14 : T.fn 14 = some MB.b14_want_deed
  t15 : T.fn 15 = some MB.b15_Floor_goes
  t16 : T.fn 16 = some MB.b16_is_whole
  t17 : T.fn 17 = some MB.b17_is_from
  t18 : T.fn 18 = some MB.b18_is_place
  t19 : T.fn 19 = some MB.b19_Floor_has
  t20 : T.fn 20 = some MB.b20_Floor_seen
  t21 : T.fn 21 = some MB.b21_Floor_can_stand
  t22 : T.fn 22 = some MB.b22_Floor_size
  c : T.cl 0 = some C
  m0 : C.meths.lookup 0 = some 15
  m1 : C.meths.lookup 1 = some 12
  m2 : C.meths.lookup 2 = some 20
  m3 : C.meths.lookup 3 = some 19
  m4 : C.meths.lookup 4 = some 21
  m5 : C.meths.lookup 5 = some 22
  ini : C.init = 5
  g0 : T.gl 0 = some (.str signsX)
  g1 : T.gl 1 = some (.int 6)
  g2 : T.gl 2 = some (.str ['x'])
  g3 : T.gl 3 = some (.str ['#'])
  g4 : T.gl 4 = some (.str ['~'])
  g5 : T.gl 5 = some (.tup [.tup [.int (-1), .int 0], .tup [.int 0, .int 1], .tup [.int 1, .int 0], .tup [.int 0, .int (-1)]])
  g6 : T.gl 6 = some (.str ['u', 'r', 'd', 'l'])
  g7 : T.gl 7 = some (.str ['.', 'a', 'b', 'c', 'd'])
variable {T : Tab} {C : Cl} {m : Mem} {Q : W → Mem → Prop} {n : Nat}
theorem r_isi {w : W} {k : Kd} {b : Bool} (h : kdW m k w = some b) : Rwp (isiW m w [k]) Q = Q (.bl b) m := by
  unfold isiW
  simp only [optL, h]
  cases b <;> rfl
theorem sp_whole (K : FlOk T C) (hn : 1 ≤ n) {i : Int} (hq : Q (.bl true) m) : Rwp (callN T n 16 [.int i] m) Q := by
  obtain ⟨n, rfl⟩ : ∃ k, n = k + 1 := ⟨n - 1, by omega⟩
  refine call_wp K.t16 rfl ?_
  simp [MB.b16_is_whole, r_isi (w := .int i) (k := .int) (b := true) rfl, r_isi (w := .int i) (k := .bool) (b := false) rfl, hq]
theorem sp_from (K : FlOk T C) (hn : 2 ≤ n) {i a b : Int} (hq : Q (.bl (decide (a ≤ i ∧ i ≤ b))) m) : Rwp (callN T n 17 [.int i, .int a, .int b] m) Q := by
  obtain ⟨n, rfl⟩ : ∃ k, n = k + 1 := ⟨n - 1, by omega⟩
  refine call_wp K.t17 rfl ?_
  simp [MB.b17_is_from]
  refine sp_whole K (by omega) ?_
  simp
  by_cases h : a ≤ i
  · simp [h] at hq ⊢
    exact hq
  · simp [h] at hq ⊢
    exact hq
theorem sp_place (K : FlOk T C) (hn : 3 ≤ n) {r c a b : Int} (hq : Q (.bl (decide ((0 ≤ r ∧ r ≤ a - 1) ∧ 0 ≤ c ∧ c ≤ b - 1))) m) : Rwp (callN T n 18 [.tup [.int r, .int c], .int a, .int b] m) Q := by
  obtain ⟨n, rfl⟩ : ∃ k, n = k + 1 := ⟨n - 1, by omega⟩
  refine call_wp K.t18 rfl ?_
  simp [MB.b18_is_place, r_isi (w := .tup [.int r, .int c]) (k := .tuple) (b := true) rfl, asgT, asgL]
  refine sp_from K (by omega) ?_
  simp
  by_cases h : 0 ≤ r ∧ r ≤ a - 1
  · simp [h] at hq ⊢
    refine sp_from K (by omega) ?_
    simpa using hq
  · have e : (decide (0 ≤ r) && decide (r ≤ a - 1)) = false := by
      rw [← Bool.decide_and]; simpa using h
    simp [h] at hq
    rw [if_neg (by simpa using h), e]
    exact hq
/-- a floor's texts: so high, so wide -/
structure Fl (Ts : List Tx) (h w : Nat) : Prop where
  h0 : 0 < h
  h1 : h ≤ 1000
  w0 : 0 < w
  w1 : w ≤ 1000
  len : Ts.length = h
  row : ∀ t ∈ Ts, t.length = w ∧ ∀ c ∈ t, c ∈ signsX
def FlAt (m : Mem) (p : Nat) (Ts : List Tx) : Prop := m[p]? = some (.ins 0 [(0, .tup (Ts.map W.str))])
def Ins (h w : Nat) (r c : Int) : Prop := (0 ≤ r ∧ r ≤ (h : Int) - 1) ∧ 0 ≤ c ∧ c ≤ (w : Int) - 1
instance (h w : Nat) (r c : Int) : Decidable (Ins h w r c) := inferInstanceAs (Decidable (_ ∧ _))
def cell (Ts : List Tx) (h w : Nat) (r c : Int) : Char := if Ins h w r c then ((Ts[r.toNat]?).bind fun t => t[c.toNat]?).getD '#' else '#'
theorem sp_size (K : FlOk T C) (hn : 1 ≤ n) {p h w : Nat} {Ts : List Tx} (F : Fl Ts h w) (ha : FlAt m p Ts) (hq : Q (.tup [.int h, .int w]) m) : Rwp (callN T n 22 [.obj p] m) Q := by
  obtain ⟨n, rfl⟩ : ∃ k, n = k + 1 := ⟨n - 1, by omega⟩
  refine call_wp K.t22 rfl ?_
  unfold FlAt at ha
  have hl := F.len
  have h0 := F.h0
  obtain ⟨t, Ts, rfl⟩ : ∃ t Us, Ts = t :: Us := by
    cases Ts with
    | nil => simp at hl; omega
    | cons t Us => exact ⟨t, Us, rfl⟩
  have hw := (F.row t List.mem_cons_self).1
  have hw1 := F.w1
  simp [MB.b22_Floor_size, w_fld, ha, getI_nat]
  rw [r_lenX (by simp only [SL]; omega), hw]
  simp at hl
  have e : ((Ts.length : Int) + 1) = (h : Int) := by omega
  rw [e]
  exact hq
theorem sp_has (K : FlOk T C) (hn : 4 ≤ n) {p h w : Nat} {Ts : List Tx} (F : Fl Ts h w) (ha : FlAt m p Ts) {r c : Int} (hq : Q (.bl (decide (Ins h w r c))) m) : Rwp (callN T n 19 [.obj p, .tup [.int r, .int c]] m) Q := by
  obtain ⟨n, rfl⟩ : ∃ k, n = k + 1 := ⟨n - 1, by omega⟩
  refine call_wp K.t19 rfl ?_
  have ha' := ha
  unfold FlAt at ha'
  simp [MB.b19_Floor_has, w_meth, ha', K.c, K.m5]
  refine sp_size K (by omega) F ha ?_
  simp [asgT, asgL]
  exact sp_place K (by omega) hq
theorem cell_at {Ts : List Tx} {h w : Nat} (F : Fl Ts h w) {r c : Int} (i : Ins h w r c) : ∃ t, Ts[r.toNat]? = some t ∧ t.length = w ∧ t[c.toNat]? = some (cell Ts h w r c) ∧ cell Ts h w r c ∈ signsX := by
  have hl := F.len
  have i' := i
  unfold Ins at i'
  have hr : r.toNat < Ts.length := by omega
  have ht := F.row _ (List.getElem_mem hr)
  have hc : c.toNat < (Ts[r.toNat]).length := by omega
  have e : cell Ts h w r c = (Ts[r.toNat])[c.toNat] := by
    unfold cell
    rw [if_pos i, List.getElem?_eq_getElem hr]
    simp [List.getElem?_eq_getElem hc]
  refine ⟨Ts[r.toNat], List.getElem?_eq_getElem hr, ht.1, ?_, ?_⟩
  · rw [e, List.getElem?_eq_getElem hc]
  · rw [e]; exact ht.2 _ (List.getElem_mem hc)
theorem cell_out {Ts : List Tx} {h w : Nat} {r c : Int} (i : ¬ Ins h w r c) : cell Ts h w r c = '#' := if_neg i
theorem cell_in {Ts : List Tx} {h w : Nat} {r c : Int} (i : cell Ts h w r c ≠ '#') : Ins h w r c := by
  by_cases k : Ins h w r c
  · exact k
  · exact absurd (cell_out k) i
theorem sp_seen (K : FlOk T C) (hn : 5 ≤ n) {p h w : Nat} {Ts : List Tx} (F : Fl Ts h w) (ha : FlAt m p Ts) {r c : Int} (hq : Q (.str [cell Ts h w r c]) m) : Rwp (callN T n 20 [.obj p, .tup [.int r, .int c]] m) Q := by
  obtain ⟨n, rfl⟩ : ∃ k, n = k + 1 := ⟨n - 1, by omega⟩
  refine call_wp K.t20 rfl ?_
  have ha' := ha
  unfold FlAt at ha'
  simp [MB.b20_Floor_seen, w_meth, w_fld, ha', K.c, K.m3]
  refine sp_has K (by omega) F ha ?_
  by_cases i : Ins h w r c
  · obtain ⟨t, t1, t2, t3, t4⟩ := cell_at F i
    have w1 := F.w1
    have i' := i
    unfold Ins at i'
    simp [i, ha', getI_nat, i'.1.1, t1]
    rw [r_idxX (by simp only [SL]; omega), getI_nat i'.2.1, t3]
    exact hq
  · rw [cell_out i] at hq
    simp [i, K.g3]
    exact hq
def openX : Tx := ['.', 'a', 'b', 'c', 'd', '~']
theorem sp_can (K : FlOk T C) (hn : 6 ≤ n) {p h w : Nat} {Ts : List Tx} (F : Fl Ts h w) (ha : FlAt m p Ts) {r c : Int} (hq : Q (.bl (subT [cell Ts h w r c] openX)) m) : Rwp (callN T n 21 [.obj p, .tup [.int r, .int c]] m) Q := by
  obtain ⟨n, rfl⟩ : ∃ k, n = k + 1 := ⟨n - 1, by omega⟩
  refine call_wp K.t21 rfl ?_
  have ha' := ha
  unfold FlAt at ha'
  simp [MB.b21_Floor_can_stand, w_meth, w_fld, ha', K.c, K.m3, K.m2]
  refine sp_has K (by omega) F ha ?_
  by_cases i : Ins h w r c
  · simp [i, w_meth, ha', K.c, K.m2]
    refine sp_seen K (by omega) F ha ?_
    simp [K.g7, K.g4, SL, cmpop, inW]
    exact hq
  · rw [cell_out i, show subT ['#'] openX = false by decide +kernel] at hq
    simp [i]
    exact hq
theorem sp_sign (K : FlOk T C) (hn : 6 ≤ n) {p h w : Nat} {Ts : List Tx} (F : Fl Ts h w) (ha : FlAt m p Ts) {r c : Int} (i : Ins h w r c) (hq : Q (.str [cell Ts h w r c]) m) : Rwp (callN T n 12 [.obj p, .tup [.int r, .int c]] m) Q := by
  obtain ⟨n, rfl⟩ : ∃ k, n = k + 1 := ⟨n - 1, by omega⟩
  refine call_wp K.t12 rfl ?_
  have ha' := ha
  unfold FlAt at ha'
  simp [MB.b12_Floor_sign, w_meth, w_fld, ha', K.c, K.m3, K.m2]
  refine sp_has K (by omega) F ha ?_
  simp [i, w_meth, ha', K.c, K.m2]
  exact sp_seen K (by omega) F ha hq
def dirs : List (Char × Int × Int) := [('u', -1, 0), ('r', 0, 1), ('d', 1, 0), ('l', 0, -1)]
theorem ix_u : indexT ['u', 'r', 'd', 'l'] ['u'] = some 0 := by decide +kernel
theorem ix_r : indexT ['u', 'r', 'd', 'l'] ['r'] = some 1 := by decide +kernel
theorem ix_d : indexT ['u', 'r', 'd', 'l'] ['d'] = some 2 := by decide +kernel
theorem ix_l : indexT ['u', 'r', 'd', 'l'] ['l'] = some 3 := by decide +kernel
theorem sp_next (K : FlOk T C) (hn : 1 ≤ n) {r c dr dc : Int} {x : Char} (hx : (x, dr, dc) ∈ dirs) (hq : Q (.tup [.int (r + dr), .int (c + dc)]) m) : Rwp (callN T n 13 [.tup [.int r, .int c], .str [x]] m) Q := by
  obtain ⟨n, rfl⟩ : ∃ k, n = k + 1 := ⟨n - 1, by omega⟩
  refine call_wp K.t13 rfl ?_
  simp only [dirs, List.mem_cons, List.not_mem_nil, or_false, Prod.mk.injEq] at hx
  rcases hx with ⟨rfl, rfl, rfl⟩ | ⟨rfl, rfl, rfl⟩ | ⟨rfl, rfl, rfl⟩ | ⟨rfl, rfl, rfl⟩
  · simp [MB.b13_next_to, K.g5, K.g6, rcvOk, isStrW, bmW, ix_u, Rwp_ofO, getI_nat, asgT, asgL]; simpa using hq
  · simp [MB.b13_next_to, K.g5, K.g6, rcvOk, isStrW, bmW, ix_r, Rwp_ofO, getI_nat, asgT, asgL]; simpa using hq
  · simp [MB.b13_next_to, K.g5, K.g6, rcvOk, isStrW, bmW, ix_d, Rwp_ofO, getI_nat, asgT, asgL]; simpa using hq
  · simp [MB.b13_next_to, K.g5, K.g6, rcvOk, isStrW, bmW, ix_l, Rwp_ofO, getI_nat, asgT, asgL]; simpa using hq
theorem sub_deed {x : Char} {dr dc : Int} (hx : (x, dr, dc) ∈ dirs) : subT [x] ['u', 'r', 'd', 'l'] = true := by
  simp only [dirs, List.mem_cons, List.not_mem_nil, or_false, Prod.mk.injEq] at hx
  rcases hx with ⟨rfl, _, _⟩ | ⟨rfl, _, _⟩ | ⟨rfl, _, _⟩ | ⟨rfl, _, _⟩ <;> decide +kernel
theorem sp_want (K : FlOk T C) (hn : 1 ≤ n) {dr dc : Int} {x : Char} (hx : (x, dr, dc) ∈ dirs) (hq : Q .non m) : Rwp (callN T n 14 [.str [x]] m) Q := by
  obtain ⟨n, rfl⟩ : ∃ k, n = k + 1 := ⟨n - 1, by omega⟩
  refine call_wp K.t14 rfl ?_
  simp [MB.b14_want_deed, r_isi (w := .str [x]) (k := .str) (b := true) rfl, K.g6, cmpop, inW, sub_deed hx]
  rw [r_lenX (by simp [SL])]
  simp [ofO, eqW_int]
  exact hq
end Sp
end

section
set_option Elab.async false
set_option linter.all false
set_option maxRecDepth 100000
set_option maxHeartbeats 4000000
/-! Sp4: sliding. -/
namespace Sp
open Mi

def pos (r c dr dc : Int) (i : Nat) : W := .tup [.int (r + i * dr), .int (c + i * dc)]
theorem pos_zero {r c dr dc : Int} : pos r c dr dc 0 = .tup [.int r, .int c] := by simp [pos]
theorem pos_succ {r c dr dc : Int} {i : Nat} : pos r c dr dc (i + 1) = .tup [.int (r + i * dr + dr), .int (c + i * dc + dc)] := by
  unfold pos
  rw [show ((i + 1 : Nat) : Int) * dr = i * dr + dr by rw [Int.natCast_add, Int.add_mul]; simp, show ((i + 1 : Nat) : Int) * dc = i * dc + dc by rw [Int.natCast_add, Int.add_mul]; simp, Int.add_assoc, Int.add_assoc]
/-- the first place on the way that is no ice -/
structure Way (Ts : List Tx) (h w : Nat) (r c dr dc : Int) (k : Nat) : Prop where
  k1 : 1 ≤ k
  ice : ∀ i : Nat, 1 ≤ i → i < k → cell Ts h w (r + i * dr) (c + i * dc) = '~'
  stop : cell Ts h w (r + k * dr) (c + k * dc) ≠ '~'
def endW (Ts : List Tx) (h w : Nat) (r c dr dc : Int) (k : Nat) : W := if cell Ts h w (r + k * dr) (c + k * dc) = '#' then pos r c dr dc (k - 1) else if cell Ts h w (r + k * dr) (c + k * dc) = 'x' then .non else pos r c dr dc k
theorem Way.uniq {Ts : List Tx} {h w : Nat} {r c dr dc : Int} {k l : Nat} (a : Way Ts h w r c dr dc k) (b : Way Ts h w r c dr dc l) : k = l := by
  rcases Nat.lt_trichotomy k l with g | g | g
  · exact absurd (b.ice k a.k1 g) a.stop
  · exact g
  · exact absurd (a.ice l b.k1 g) b.stop
theorem ins_le {h w : Nat} {r c dr dc : Int} {x : Char} (hx : (x, dr, dc) ∈ dirs) (hh : h ≤ 1000) (hw : w ≤ 1000) (a : Ins h w r c) {i : Nat} (b : Ins h w (r + i * dr) (c + i * dc)) : i ≤ 1000 := by
  unfold Ins at a b
  simp only [dirs, List.mem_cons, List.not_mem_nil, or_false, Prod.mk.injEq] at hx
  rcases hx with ⟨rfl, rfl, rfl⟩ | ⟨rfl, rfl, rfl⟩ | ⟨rfl, rfl, rfl⟩ | ⟨rfl, rfl, rfl⟩ <;> omega
structure WhInv (Ts : List Tx) (h w : Nat) (p : Nat) (x : Char) (r c dr dc : Int) (m : Mem) (b : Nat) (e : Env) (m' : Mem) : Prop where
  ex : m' = m ∧ ∃ i : Nat, b + i = 2000 ∧ 1 ≤ i ∧ (∀ j : Nat, 1 ≤ j → j < i → cell Ts h w (r + j * dr) (c + j * dc) = '~') ∧ e = [some (.obj p), some (.tup [.int r, .int c]), some (.str [x]), some (pos r c dr dc (i - 1)), some (pos r c dr dc i)]
variable {T : Tab} {C : Cl} {m : Mem} {Q : W → Mem → Prop} {n : Nat}
theorem stand_ne {x : Char} (h : subT [x] openX = true) : x ≠ '#' ∧ x ≠ 'x' := by
  constructor
  · rintro rfl
    rw [show subT ['#'] openX = false by decide +kernel] at h
    cases h
  · rintro rfl
    rw [show subT ['x'] openX = false by decide +kernel] at h
    cases h
theorem sp_goes (K : FlOk T C) (hn : 7 ≤ n) {p h w : Nat} {Ts : List Tx} (F : Fl Ts h w) (ha : FlAt m p Ts) {r c dr dc : Int} {x : Char} (hx : (x, dr, dc) ∈ dirs) (hs : subT [cell Ts h w r c] openX = true) (hq : ∀ k, Way Ts h w r c dr dc k → Q (endW Ts h w r c dr dc k) m) : Rwp (callN T n 15 [.obj p, .tup [.int r, .int c], .str [x]] m) Q := by
  obtain ⟨n, rfl⟩ : ∃ k, n = k + 1 := ⟨n - 1, by omega⟩
  refine call_wp K.t15 rfl ?_
  have ha' := ha
  unfold FlAt at ha'
  have hi : Ins h w r c := cell_in (stand_ne hs).1
  simp [MB.b15_Floor_goes, w_meth, ha', K.c, K.m4]
  refine sp_can K (by omega) F ha ?_
  simp [hs]
  refine sp_want K (by omega) hx ?_
  refine sp_next K (by omega) hx ?_
  rw [s_whl]
  refine wh_wp (WhInv Ts h w p x r c dr dc m) 1999 (by simp [FUEL]) ⟨rfl, 1, rfl, Nat.le_refl _, fun j h1 h2 => absurd h2 (by omega), by simp [pos_zero, pos]⟩ fun b e m' I => ?_
  obtain ⟨rfl, i, hb, i1, hice, rfl⟩ := I.ex
  simp [w_meth, ha', K.c, K.m2]
  refine sp_seen K (by omega) F ha ?_
  simp [K.g4]
  split
  · rename_i hc
    have hi2 : Ins h w (r + i * dr) (c + i * dc) := cell_in (by rw [hc]; decide)
    have hle := ins_le hx F.h1 F.w1 hi hi2
    refine sp_next K (by omega) hx ?_
    refine ⟨b - 1, by omega, rfl, i + 1, by omega, by omega, fun j h1 h2 => ?_, by simp [pos_succ]⟩
    by_cases hj : j = i
    · subst hj; exact hc
    · exact hice j h1 (by omega)
  · rename_i hc
    have wy : Way Ts h w r c dr dc i := ⟨i1, hice, hc⟩
    have q := hq i wy
    simp [w_meth, ha', K.c, K.m2]
    refine sp_seen K (by omega) F ha ?_
    simp [K.g3]
    unfold endW at q
    split
    · rename_i h1
      rw [if_pos h1] at q
      exact q
    · rename_i h1
      rw [if_neg h1] at q
      simp [w_meth, ha', K.c, K.m2]
      refine sp_seen K (by omega) F ha ?_
      simp [K.g2]
      split
      · rename_i h2
        rw [if_pos h2] at q
        exact q
      · rename_i h2
        rw [if_neg h2] at q
        exact q
/-! ### equality of places -/
theorem eqW_tup2 {a b c d : Int} : eqW m (.tup [.int a, .int b]) (.tup [.int c, .int d]) = some (decide (a = c) && decide (b = d)) := by
  simp [eqW, DD, toD, optL, PySem.PyData.eqv, PySem.PyData.eqvAll]
  rfl
theorem eqW_nn : eqW m .non .non = some true := by
  simp [eqW, DD, toD, optL, PySem.PyData.eqv]
theorem eqW_nil {k l : Nat} (h : m[k]? = some (.lst [])) (g : m[l]? = some (.lst [])) : eqW m (.obj k) (.obj l) = some true := by
  simp [eqW, DD, toD, optL, h, g, PySem.PyData.eqv, PySem.PyData.eqvAll]
end Sp
end

section
set_option Elab.async false
set_option linter.all false
set_option maxRecDepth 100000
set_option maxHeartbeats 4000000
/-! Sp5: there and back. -/
namespace Sp
open Mi
variable {T : Tab} {C : Cl} {m : Mem} {Q : W → Mem → Prop} {n : Nat}
@[simp] theorem r_min2 {i j : Int} : Rwp (bltW .min2 [.int i, .int j] m) Q = Q (.int (if j < i then j else i)) m := rfl
@[simp] theorem r_max2 {i j : Int} : Rwp (bltW .max2 [.int i, .int j] m) Q = Q (.int (if j > i then j else i)) m := rfl
def rowG (r : Int) : W → Option W := fun v => match v with
  | .int y => some (.tup [.int r, .int y])
  | _ => none
def colG (c : Int) : W → Option W := fun v => match v with
  | .int y => some (.tup [.int y, .int c])
  | _ => none
theorem sp_between (hT : T.fn 1 = some MB.b1_between) (hn : 1 ≤ n) {r0 c0 r1 c1 : Int} (hd : (r0 = r1 ∧ c0 ≠ c1) ∨ (c0 = c1 ∧ r0 ≠ r1)) (b0 : 0 ≤ r0 ∧ r0 ≤ 1000) (b1 : 0 ≤ r1 ∧ r1 ≤ 1000) (b2 : 0 ≤ c0 ∧ c0 ≤ 1000) (b3 : 0 ≤ c1 ∧ c1 ≤ 1000)
    (hq : ∀ ws z, ws.length ≤ 1000 → (∀ v ∈ ws, ∃ y x : Int, v = .tup [.int y, .int x] ∧ ((r0 = r1 ∧ y = r0 ∧ (c0 < x ∧ x < c1 ∨ c1 < x ∧ x < c0)) ∨ (c0 = c1 ∧ x = c0 ∧ (r0 < y ∧ y < r1 ∨ r1 < y ∧ y < r0)))) → Q (.obj m.length) (m ++ .lst ws :: z)) :
    Rwp (callN T n 1 [.tup [.int r0, .int c0], .tup [.int r1, .int c1]] m) Q := by
  obtain ⟨n, rfl⟩ : ∃ k, n = k + 1 := ⟨n - 1, by omega⟩
  refine call_wp hT rfl ?_
  simp [MB.b1_between, asgT, asgL]
  have h1 : ¬ (r0 ≠ r1 ∧ c0 ≠ c1) := by omega
  by_cases h : r0 = r1
  · subst h
    have hc : c0 ≠ c1 := by omega
    simp
    rw [w_lc]
    simp [rngW]
    rw [if_pos (by split <;> split <;> omega)]
    simp
    generalize hlo : (if c1 < c0 then c1 else c0) = lo
    generalize hhi : (if c0 < c1 then c1 else c0) = hi
    have hlo' : lo ≤ c0 ∧ lo ≤ c1 ∧ (lo = c0 ∨ lo = c1) := by rw [← hlo]; split <;> omega
    have hhi' : c0 ≤ hi ∧ c1 ≤ hi ∧ (hi = c0 ∨ hi = c1) := by rw [← hhi]; split <;> omega
    refine lc_pure (ws := (List.range (hi - (lo + 1)).toNat).map fun (i : Nat) => W.int (lo + 1 + i)) (rowG r0) (by simp [Src.len, Bs.len]) (by simp [SL]; omega) (fun acc z => sees_st) (fun i x acc z P hx hP => ?_) (fun z => ?_)
    · have hx2 := List.mem_of_getElem? hx
      obtain ⟨j, hj, rfl⟩ := List.mem_map.mp hx2
      unfold lcB1
      simp [asgT, wipeE]
      exact hP _
    · refine hq _ z ?_ fun v hv => ?_
      · refine Nat.le_trans (List.length_filterMap_le _ _) ?_
        simp
        omega
      · obtain ⟨y, hy, e⟩ := List.mem_filterMap.mp hv
        obtain ⟨j, hj, rfl⟩ := List.mem_map.mp hy
        have hj' := List.mem_range.mp hj
        simp only [rowG, Option.some.injEq] at e
        refine ⟨r0, lo + 1 + j, e.symm, .inl ⟨rfl, rfl, ?_⟩⟩
        omega
  · have hc : c0 = c1 := by omega
    subst hc
    simp [h]
    rw [w_lc]
    simp [rngW]
    rw [if_pos (by split <;> split <;> omega)]
    simp
    generalize hlo : (if r1 < r0 then r1 else r0) = lo
    generalize hhi : (if r0 < r1 then r1 else r0) = hi
    have hlo' : lo ≤ r0 ∧ lo ≤ r1 ∧ (lo = r0 ∨ lo = r1) := by rw [← hlo]; split <;> omega
    have hhi' : r0 ≤ hi ∧ r1 ≤ hi ∧ (hi = r0 ∨ hi = r1) := by rw [← hhi]; split <;> omega
    refine lc_pure (ws := (List.range (hi - (lo + 1)).toNat).map fun (i : Nat) => W.int (lo + 1 + i)) (colG c0) (by simp [Src.len, Bs.len]) (by simp [SL]; omega) (fun acc z => sees_st) (fun i x acc z P hx hP => ?_) (fun z => ?_)
    · have hx2 := List.mem_of_getElem? hx
      obtain ⟨j, hj, rfl⟩ := List.mem_map.mp hx2
      unfold lcB1
      simp [asgT, wipeE]
      exact hP _
    · refine hq _ z ?_ fun v hv => ?_
      · refine Nat.le_trans (List.length_filterMap_le _ _) ?_
        simp
        omega
      · obtain ⟨y, hy, e⟩ := List.mem_filterMap.mp hv
        obtain ⟨j, hj, rfl⟩ := List.mem_map.mp hy
        have hj' := List.mem_range.mp hj
        simp only [colG, Option.some.injEq] at e
        refine ⟨lo + 1 + j, c0, e.symm, .inr ⟨rfl, rfl, ?_⟩⟩
        omega
/-- the deed back -/
def opp : Char → Char := fun x => if x = 'u' then 'd' else if x = 'd' then 'u' else if x = 'r' then 'l' else 'r'
theorem opp_dir {x : Char} {dr dc : Int} (hx : (x, dr, dc) ∈ dirs) : (opp x, -dr, -dc) ∈ dirs := by
  simp only [dirs, List.mem_cons, List.not_mem_nil, or_false, Prod.mk.injEq] at hx
  rcases hx with ⟨rfl, rfl, rfl⟩ | ⟨rfl, rfl, rfl⟩ | ⟨rfl, rfl, rfl⟩ | ⟨rfl, rfl, rfl⟩ <;> simp [opp, dirs]
def backT : CE := .dct (.cons (.str ['u']) (.cons (.str ['d']) (.cons (.str ['d']) (.cons (.str ['u']) (.cons (.str ['r']) (.cons (.str ['l']) (.cons (.str ['l']) (.cons (.str ['r']) .nil))))))))
theorem sp_back {cl : Caller} {e : Env} {x : Char} {dr dc : Int} (hx : (x, dr, dc) ∈ dirs) {v : Nat} (he : e[v]? = some (some (.str [x]))) (hq : ∀ o, Q (.str [opp x]) (m ++ [o])) : Rwp (ev T cl (.idx backT (.var v)) e m) Q := by
  simp [backT, he, dctEnd, pairsW, isKey, mergeW, putW, keyEq]
  rw [r_idxD (kvs := [(.str ['u'], .str ['d']), (.str ['d'], .str ['u']), (.str ['r'], .str ['l']), (.str ['l'], .str ['r'])]) (by simp) rfl]
  simp only [dirs, List.mem_cons, List.not_mem_nil, or_false, Prod.mk.injEq] at hx
  rcases hx with ⟨rfl, rfl, rfl⟩ | ⟨rfl, rfl, rfl⟩ | ⟨rfl, rfl, rfl⟩ | ⟨rfl, rfl, rfl⟩ <;> simp [getK, keyEq] <;> exact hq _
end Sp
end

section
set_option Elab.async false
set_option linter.all false
set_option maxRecDepth 100000
set_option maxHeartbeats 4000000
/-! Sp6: the way there and back. -/
namespace Sp
open Mi
variable {T : Tab} {C : Cl} {m : Mem} {Q : W → Mem → Prop} {n : Nat}
def Ext (m m' : Mem) : Prop := ∃ z, m' = m ++ z
theorem Ext.refl (m : Mem) : Ext m m := ⟨[], by simp⟩
theorem Ext.app {m m' g : Mem} (h : Ext m m') : Ext m (m' ++ g) := let ⟨z, e⟩ := h; ⟨z ++ g, by rw [e, List.append_assoc]⟩
theorem Ext.trans {m m1 m2 : Mem} (h : Ext m m1) (g : Ext m1 m2) : Ext m m2 := by
  obtain ⟨z, rfl⟩ := g
  exact h.app
theorem Ext.at {m m' : Mem} (h : Ext m m') {l : Nat} {o : Ob} (g : m[l]? = some o) : m'[l]? = some o := let ⟨z, e⟩ := h; by rw [e]; exact app_at g
theorem dir_cases {x : Char} {dr dc : Int} (hx : (x, dr, dc) ∈ dirs) : (dr = -1 ∧ dc = 0) ∨ (dr = 0 ∧ dc = 1) ∨ (dr = 1 ∧ dc = 0) ∨ (dr = 0 ∧ dc = -1) := by
  simp only [dirs, List.mem_cons, List.not_mem_nil, or_false, Prod.mk.injEq] at hx
  rcases hx with ⟨rfl, rfl, rfl⟩ | ⟨rfl, rfl, rfl⟩ | ⟨rfl, rfl, rfl⟩ | ⟨rfl, rfl, rfl⟩ <;> simp
theorem one_le {dr : Int} (h : dr = -1 ∨ dr = 0 ∨ dr = 1) (r : Int) {K i : Nat} (hi : i ≤ K) : r + K * dr + i * (-dr) = r + (K - i : Nat) * dr := by
  rcases h with rfl | rfl | rfl <;> omega
theorem one_gt {dr : Int} (h : dr = -1 ∨ dr = 0 ∨ dr = 1) (r : Int) {K i : Nat} : r + K * dr + (K + i : Nat) * (-dr) = r + i * (-dr) := by
  rcases h with rfl | rfl | rfl <;> omega
theorem one_add {dr : Int} (h : dr = -1 ∨ dr = 0 ∨ dr = 1) (r : Int) {K i : Nat} : r + K * dr + i * dr = r + (K + i : Nat) * dr := by
  rcases h with rfl | rfl | rfl <;> omega
theorem stand_of {c : Char} (h : c ∈ signsX) (h1 : c ≠ '#') (h2 : c ≠ 'x') : subT [c] openX = true := by
  simp only [signsX, List.mem_cons, List.not_mem_nil, or_false] at h
  rcases h with rfl | rfl | rfl | rfl | rfl | rfl | rfl | rfl
  · exact absurd rfl h1
  · decide +kernel
  · exact absurd rfl h2
  all_goals decide +kernel
theorem end_cases {Ts : List Tx} {h w : Nat} {r c dr dc : Int} {k : Nat} (a : Way Ts h w r c dr dc k) : endW Ts h w r c dr dc k = .non ∨ ∃ K, endW Ts h w r c dr dc k = pos r c dr dc K ∧ ((K + 1 = k ∧ cell Ts h w (r + k * dr) (c + k * dc) = '#') ∨ (K = k ∧ cell Ts h w (r + k * dr) (c + k * dc) ≠ '#' ∧ cell Ts h w (r + k * dr) (c + k * dc) ≠ 'x')) := by
  have := a.k1
  unfold endW
  split
  · rename_i h1; exact .inr ⟨k - 1, rfl, .inl ⟨by omega, h1⟩⟩
  · rename_i h1
    split
    · exact .inl rfl
    · rename_i h2; exact .inr ⟨k, rfl, .inr ⟨rfl, h1, h2⟩⟩
theorem sp_way (K : FlOk T C) (hT1 : T.fn 1 = some MB.b1_between) (hT2 : T.fn 2 = some MB.b2_way_right) (hn : 9 ≤ n) {p h w : Nat} {Ts : List Tx} (F : Fl Ts h w) (ha : FlAt m p Ts) {r c dr dc : Int} {x : Char} (hx : (x, dr, dc) ∈ dirs) (hs : subT [cell Ts h w r c] openX = true) (hq : ∀ m', Ext m m' → Q (.bl true) m') : Rwp (callN T n 2 [.obj p, .tup [.int r, .int c], .str [x]] m) Q := by
  obtain ⟨n, rfl⟩ : ∃ k, n = k + 1 := ⟨n - 1, by omega⟩
  refine call_wp hT2 rfl ?_
  have ha' := ha
  unfold FlAt at ha'
  have hst := stand_ne hs
  have hi : Ins h w r c := cell_in hst.1
  have hdd := dir_cases hx
  have hdr : dr = -1 ∨ dr = 0 ∨ dr = 1 := by omega
  have hdc : dc = -1 ∨ dc = 0 ∨ dc = 1 := by omega
  have hb0 : MB.b2_way_right.body = MB.b2_way_right.body := rfl
  simp only [MB.b2_way_right]
  rw [show CE.idx (.dct (.cons (.str ['u']) (.cons (.str ['d']) (.cons (.str ['d']) (.cons (.str ['u']) (.cons (.str ['r']) (.cons (.str ['l']) (.cons (.str ['l']) (.cons (.str ['r']) .nil))))))))) (.var 2) = CE.idx backT (.var 2) from rfl]
  simp [w_meth, ha', K.c, K.m0, -w_idx]
  refine sp_goes K (by omega) F ha hx hs fun k wy => ?_
  rcases end_cases wy with e | ⟨Kn, e, hK⟩
  · rw [e]
    simp [isNon]
    exact hq _ (Ext.refl m)
  · rw [e]
    by_cases hK0 : Kn = 0
    · subst hK0
      rw [pos_zero]
      simp [isNon, cmpop, eqW_tup2]
      exact hq _ (Ext.refl m)
    · have k1 := wy.k1
      have hne : ¬ (r + Kn * dr = r ∧ c + Kn * dc = c) := by
        rcases hdd with ⟨rfl, rfl⟩ | ⟨rfl, rfl⟩ | ⟨rfl, rfl⟩ | ⟨rfl, rfl⟩ <;> omega
      have hin : Ins h w (r + Kn * dr) (c + Kn * dc) := by
        rcases hK with ⟨g1, g2⟩ | ⟨g1, g2, g3⟩
        · exact cell_in (by rw [wy.ice Kn (by omega) (by omega)]; decide)
        · subst g1; exact cell_in g2
      have hsb : subT [cell Ts h w (r + Kn * dr) (c + Kn * dc)] openX = true := by
        rcases hK with ⟨g1, g2⟩ | ⟨g1, g2, g3⟩
        · rw [wy.ice Kn (by omega) (by omega)]; decide +kernel
        · subst g1
          obtain ⟨t, _, _, _, t4⟩ := cell_at F hin
          exact stand_of t4 g2 g3
      have hice : ∀ i : Nat, 1 ≤ i → i < Kn → cell Ts h w (r + i * dr) (c + i * dc) = '~' := fun i h1 h2 => wy.ice i h1 (by omega)
      have H1 := F.h1
      have W1 := F.w1
      have hi' := hi
      have hin' := hin
      unfold Ins at hi' hin'
      simp [isNon, cmpop, pos, eqW_tup2, Rwp_ofO, hne, -w_idx]
      have hne' : (decide (r + Kn * dr = r) && decide (c + Kn * dc = c)) = false := by
        rw [← Bool.decide_and]; simpa using hne
      try rw [hne']
      try simp [-w_idx]
      refine sp_between hT1 (by omega) (by rcases hdd with ⟨rfl, rfl⟩ | ⟨rfl, rfl⟩ | ⟨rfl, rfl⟩ | ⟨rfl, rfl⟩ <;> omega) (by omega) (by omega) (by omega) (by omega) fun ws z hw hmem => ?_
      have hmid : ∀ v ∈ ws, ∃ i : Nat, 1 ≤ i ∧ i < Kn ∧ v = .tup [.int (r + i * dr), .int (c + i * dc)] := by
        intro v hv
        obtain ⟨y, x', rfl, hv⟩ := hmem v hv
        rcases hdd with ⟨rfl, rfl⟩ | ⟨rfl, rfl⟩ | ⟨rfl, rfl⟩ | ⟨rfl, rfl⟩
        · exact ⟨(r - y).toNat, by omega, by omega, by simp; omega⟩
        · exact ⟨(x' - c).toNat, by omega, by omega, by simp; omega⟩
        · exact ⟨(y - r).toNat, by omega, by omega, by simp; omega⟩
        · exact ⟨(c - x').toNat, by omega, by omega, by simp; omega⟩
      simp [-w_idx]
      have hM0 : (m ++ Ob.lst ws :: z)[m.length]? = some (.lst ws) := app_new
      have hE0 : Ext m (m ++ Ob.lst ws :: z) := ⟨_, rfl⟩
      generalize m ++ Ob.lst ws :: z = M at hM0 hE0 ⊢
      rw [w_lc]
      simp [srcOf, hM0, -w_idx]
      refine lc_pure (ws := ws) (fun _ => none) (by rw [len_lv hM0]; omega) (by simp only [SL]; omega) (fun acc z' => sees_lv (app_at hM0)) (fun i v acc z' P hv hP => ?_) (fun z' => ?_)
      · obtain ⟨i2, j1, j2, rfl⟩ := hmid v (List.mem_of_getElem? hv)
        have ha2 : FlAt (M ++ Ob.lst acc :: z') p Ts := app_at (hE0.at ha)
        have hP' := hP z'
        generalize M ++ Ob.lst acc :: z' = M2 at ha2 hP' ⊢
        have ha3 := ha2
        unfold FlAt at ha3
        have hc := hice i2 j1 j2
        unfold lcB1
        simp [asgT, wipeE, w_meth, ha3, K.c, K.m1]
        refine sp_sign K (by omega) F ha2 (cell_in (by rw [hc]; decide)) ?_
        simp [hc, cmpop, eqW_str, ofO]
        exact hP'
      · rw [show ws.filterMap (fun _ => (none : Option W)) = [] by simp]
        have h2 : (M ++ Ob.lst [] :: z')[M.length]? = some (.lst []) := app_new
        have hE2 : Ext m (M ++ Ob.lst [] :: z') := hE0.app
        generalize M ++ Ob.lst [] :: z' = M2 at h2 hE2 ⊢
        rw [eqW_nil (app_at h2) app_new]
        simp only [optP_some, if_true]
        refine sp_back hx (by rfl) fun o => ?_
        have hE3 : Ext m (M2 ++ [Ob.lst []] ++ [o]) := hE2.app.app
        generalize M2 ++ [Ob.lst []] ++ [o] = M3 at hE3 ⊢
        have ha3 : FlAt M3 p Ts := hE3.at ha
        have ha4 := ha3
        unfold FlAt at ha4
        have hq' : Q (.bl true) M3 := hq _ hE3
        have hstep : ∀ Q' : W → Mem → Prop, (∀ k, Way Ts h w (r + Kn * dr) (c + Kn * dc) (-dr) (-dc) k → Q' (endW Ts h w (r + Kn * dr) (c + Kn * dc) (-dr) (-dc) k) M3) → Rwp (callN T n 15 [.obj p, .tup [.int (r + Kn * dr), .int (c + Kn * dc)], .str [opp x]] M3) Q' := fun Q' h => sp_goes K (by omega) F ha3 (opp_dir hx) hsb h
        have hcell : ∀ i : Nat, i ≤ Kn → cell Ts h w (r + Kn * dr + i * (-dr)) (c + Kn * dc + i * (-dc)) = cell Ts h w (r + (Kn - i : Nat) * dr) (c + (Kn - i : Nat) * dc) := fun i hi => by rw [one_le hdr r hi, one_le hdc c hi]
        simp [w_meth, ha4, K.c, K.m1, K.m0]
        refine sp_sign K (by omega) F ha3 hin ?_
        simp only [eqW_str, optP_some]
        have endb : cell Ts h w (r + Kn * dr) (c + Kn * dc) = '~' → ∀ k4, Way Ts h w (r + Kn * dr) (c + Kn * dc) dr dc k4 → endW Ts h w (r + Kn * dr) (c + Kn * dc) dr dc k4 = .tup [.int (r + Kn * dr), .int (c + Kn * dc)] := by
          intro hcb k4 w4
          have e1 : Kn + 1 = k ∧ cell Ts h w (r + k * dr) (c + k * dc) = '#' := by
            rcases hK with g | ⟨g1, g2, g3⟩
            · exact g
            · exact absurd hcb (by rw [g1]; exact wy.stop)
          have e2 : cell Ts h w (r + Kn * dr + (1 : Nat) * dr) (c + Kn * dc + (1 : Nat) * dc) = '#' := by
            rw [one_add hdr, one_add hdc, e1.1]
            exact e1.2
          have w1 : Way Ts h w (r + Kn * dr) (c + Kn * dc) dr dc 1 := ⟨Nat.le_refl _, fun i a b => absurd b (by omega), by rw [e2]; decide⟩
          have e3 := w4.uniq w1
          subst e3
          unfold endW
          rw [if_pos e2]
          exact pos_zero
        have enda : cell Ts h w r c ≠ '~' → ∀ k2, Way Ts h w (r + Kn * dr) (c + Kn * dc) (-dr) (-dc) k2 → endW Ts h w (r + Kn * dr) (c + Kn * dc) (-dr) (-dc) k2 = .tup [.int r, .int c] := by
          intro hca k2 w2
          have e2 : cell Ts h w (r + Kn * dr + Kn * (-dr)) (c + Kn * dc + Kn * (-dc)) = cell Ts h w r c := by
            rw [hcell Kn (Nat.le_refl _)]
            simp
          have w1 : Way Ts h w (r + Kn * dr) (c + Kn * dc) (-dr) (-dc) Kn := ⟨by omega, fun i a b => by rw [hcell i (by omega)]; exact hice (Kn - i) (by omega) (by omega), by rw [e2]; exact hca⟩
          have e3 := w2.uniq w1
          subst e3
          unfold endW
          rw [e2, if_neg hst.1, if_neg hst.2]
          unfold pos
          rw [one_le hdr r (Nat.le_refl _), one_le hdc c (Nat.le_refl _)]
          simp
        have endc : cell Ts h w r c = '~' → ∀ k2 k3, Way Ts h w (r + Kn * dr) (c + Kn * dc) (-dr) (-dc) k2 → Way Ts h w r c (-dr) (-dc) k3 → endW Ts h w (r + Kn * dr) (c + Kn * dc) (-dr) (-dc) k2 = endW Ts h w r c (-dr) (-dc) k3 := by
          intro hca k2 k3 w2 w3
          have c1 : ∀ i : Nat, cell Ts h w (r + Kn * dr + (Kn + i : Nat) * (-dr)) (c + Kn * dc + (Kn + i : Nat) * (-dc)) = cell Ts h w (r + i * (-dr)) (c + i * (-dc)) := fun i => by rw [one_gt hdr, one_gt hdc]
          have k31 := w3.k1
          have w1 : Way Ts h w (r + Kn * dr) (c + Kn * dc) (-dr) (-dc) (Kn + k3) := ⟨by omega, fun i h1 h2 => by
            by_cases g : i ≤ Kn
            · rw [hcell i g]
              by_cases g2 : i = Kn
              · subst g2
                simpa using hca
              · exact hice (Kn - i) (by omega) (by omega)
            · obtain ⟨j, rfl⟩ : ∃ j, i = Kn + j := ⟨i - Kn, by omega⟩
              rw [c1]
              exact w3.ice j (by omega) (by omega), by rw [c1]; exact w3.stop⟩
          have e3 := w2.uniq w1
          subst e3
          unfold endW
          rw [c1]
          have e4 : Kn + k3 - 1 = Kn + (k3 - 1) := by omega
          rw [e4]
          unfold pos
          rw [one_gt hdr, one_gt hdc, one_gt hdr, one_gt hdc]
        by_cases hcb : cell Ts h w (r + Kn * dr) (c + Kn * dc) = '~'
        case' pos =>
          simp [hcb, ha4, K.c, K.m1, K.m0]
          refine sp_goes K (by omega) F ha3 hx hsb fun k4 w4 => ?_
          rw [endb hcb k4 w4]
          simp [eqW_tup2, ha4, K.c, K.m1, K.m0]
        case' neg =>
          simp [hcb, ha4, K.c, K.m1, K.m0]
        all_goals
          refine sp_sign K (by omega) F ha3 hi ?_
          simp only [eqW_str, optP_some]
          by_cases hca : cell Ts h w r c = '~'
          · simp [hca, ha4, K.c, K.m0]
            refine hstep _ fun k2 w2 => ?_
            simp [ha4, K.c, K.m0]
            refine sp_goes K (by omega) F ha3 (opp_dir hx) hs fun k3 w3 => ?_
            rw [endc hca k2 k3 w2 w3]
            rcases end_cases w3 with e | ⟨K', e, _⟩
            · rw [e, eqW_nn]
              exact hq'
            · rw [e]
              simp [pos, eqW_tup2]
              exact hq'
          · simp [hca, ha4, K.c, K.m0]
            refine hstep _ fun k2 w2 => ?_
            rw [enda hca k2 w2]
            simp [eqW_tup2]
            exact hq'
end Sp
end

section
set_option Elab.async false
set_option linter.all false
set_option maxRecDepth 100000
set_option maxHeartbeats 4000000
/-! Sp7: a floor is made; spots. -/
namespace Sp
open Mi
variable {T : Tab} {C : Cl} {m : Mem} {Q : W → Mem → Prop} {n : Nat}
theorem asBls_true {us : List W} (h : ∀ u ∈ us, u = .bl true) : ∃ bs, asBls us = some bs ∧ bs.all id = true := by
  induction us with
  | nil => exact ⟨[], rfl, rfl⟩
  | cons u us ih =>
    obtain ⟨bs, e1, e2⟩ := ih fun v hv => h v (List.mem_cons_of_mem _ hv)
    have e3 := h u List.mem_cons_self
    subst e3
    refine ⟨true :: bs, ?_, by simpa using e2⟩
    unfold asBls at e1 ⊢
    simp only [optL, e1]
theorem r_all {k : Nat} {us : List W} (h : m[k]? = some (.lst us)) (hu : ∀ u ∈ us, u = .bl true) : Rwp (bltW .all [.obj k] m) Q = Q (.bl true) m := by
  obtain ⟨bs, e1, e2⟩ := asBls_true hu
  simp only [bltW, isLst, h, e1, e2, Option.map_some, Rwp_some]
theorem sub_signs {c : Char} (h : c ∈ signsX) : subT [c] signsX = true := by
  simp only [signsX, List.mem_cons, List.not_mem_nil, or_false] at h
  rcases h with rfl | rfl | rfl | rfl | rfl | rfl | rfl | rfl <;> decide +kernel
theorem sp_istext (K : FlOk T C) (hn : 1 ≤ n) {t : Tx} (h1 : 1 ≤ t.length) (h2 : t.length ≤ 6) (hc : ∀ c ∈ t, c ∈ signsX) (hq : ∀ m', Ext m m' → Q (.bl true) m') : Rwp (callN T n 3 [.str t] m) Q := by
  obtain ⟨n, rfl⟩ : ∃ k, n = k + 1 := ⟨n - 1, by omega⟩
  refine call_wp K.t3 rfl ?_
  have hz : t.length ≤ SL := by simp only [SL]; omega
  have a1 : (1 : Int) ≤ t.length := by omega
  have a2 : (t.length : Int) ≤ 6 := by omega
  simp [MB.b3_is_text, r_isi (w := .str t) (k := .str) (b := true) rfl, r_lenX hz, K.g1, a1, a2]
  rw [w_lc]
  simp [srcOf]
  refine lc_pure (ws := t.map fun c => W.str [c]) (fun _ => some (.bl true)) (by simp [Src.len, Bs.len]) (by simpa using hz) (fun acc z => sees_st) (fun i x acc z P hx hP => ?_) (fun z => ?_)
  · obtain ⟨d, hd, rfl⟩ := List.mem_map.mp (List.mem_of_getElem? hx)
    unfold lcB1
    simp [asgT, wipeE, K.g0, cmpop, inW, sub_signs (hc d hd), Rwp_ofO]
    exact hP _
  · rw [r_all app_new fun u hu => ?_]
    · exact hq _ ⟨_, rfl⟩
    · obtain ⟨_, _, e⟩ := List.mem_filterMap.mp hu
      exact (Option.some.inj e).symm
structure RowsInv (m : Mem) (p : Nat) (e : Env) (m' : Mem) : Prop where
  ext : Ext m m'
  env : ∃ a b, e = [some (.obj p), a, b]
theorem sp_want_rows (K : FlOk T C) (hn : 2 ≤ n) {p h w : Nat} {Ts : List Tx} (F : Fl Ts h w) (hh : h ≤ 6) (hw : w ≤ 6) (hp : m[p]? = some (.lst (Ts.map W.str))) (hq : ∀ m', Ext m m' → Q .non m') : Rwp (callN T n 4 [.obj p] m) Q := by
  obtain ⟨n, rfl⟩ : ∃ k, n = k + 1 := ⟨n - 1, by omega⟩
  refine call_wp K.t4 rfl ?_
  have hl := F.len
  have h0 := F.h0
  have w0 := F.w0
  have a1 : (1 : Int) ≤ Ts.length := by omega
  have a2 : (Ts.length : Int) ≤ 6 := by omega
  have hk : kdW m .list (.obj p) = some true := by simp [kdW, hp]
  simp [MB.b4_want_rows, r_isi hk, r_lenL hp, K.g1, a1, a2]
  rw [s_for]
  simp [srcOfE, srcOf, hp]
  refine for_wp (ws := enumW (Ts.map W.str)) (fun i e m' => RowsInv m p e m') (by rw [len_elv hp, len_enumW]; omega) ⟨Ext.refl m, _, _, rfl⟩ (fun i e m' I => sees_elv (I.ext.at hp)) (fun i x e m' hx I => ?_) (fun e m' I => hq m' I.ext)
  obtain ⟨hE, a, b, rfl⟩ := I
  have hp' := hE.at hp
  obtain ⟨t, ht, rfl⟩ : ∃ t, t ∈ Ts ∧ x = .tup [.int i, .str t] := by
    simp only [enumW, List.getElem?_mapIdx, List.getElem?_map, Option.map_map, Option.map_eq_some_iff] at hx
    obtain ⟨t, h1, h2⟩ := hx
    exact ⟨t, List.mem_of_getElem? h1, h2.symm⟩
  have g := F.row t ht
  unfold forB
  simp [asgT, asgL]
  refine sp_istext K (by omega) (by omega) (by omega) g.2 fun m2 hE2 => ?_
  have hp2 := hE2.at hp'
  obtain ⟨t0, Us, rfl⟩ : ∃ t Us, Ts = t :: Us := by
    cases Ts with
    | nil => simp at hl; omega
    | cons t Us => exact ⟨t, Us, rfl⟩
  have g0 := F.row t0 List.mem_cons_self
  have z1 : t.length ≤ SL := by simp only [SL]; omega
  have z0 : t0.length ≤ SL := by simp only [SL]; omega
  simp [r_lenX z1, r_idxL hp2, getI_nat, r_lenX z0, g.1, g0.1]
  exact ⟨hE.trans hE2, _, _, rfl⟩
theorem sp_make (K : FlOk T C) (hn : 3 ≤ n) {p h w : Nat} {Ts : List Tx} (F : Fl Ts h w) (hh : h ≤ 6) (hw : w ≤ 6) (hp : m[p]? = some (.lst (Ts.map W.str))) (hq : ∀ z, Q .non (m ++ .ins 0 [(0, .tup (Ts.map W.str))] :: z)) : Rwp (callN T n 5 [.obj m.length, .obj p] (m ++ [.ins 0 []])) Q := by
  obtain ⟨n, rfl⟩ : ∃ k, n = k + 1 := ⟨n - 1, by omega⟩
  refine call_wp K.t5 rfl ?_
  simp [MB.b5_Floor__init]
  refine sp_want_rows K (by omega) F hh hw (app_at hp) fun m' hE => ?_
  obtain ⟨z, rfl⟩ := hE
  have e1 : m ++ [Ob.ins 0 []] ++ z = m ++ .ins 0 [] :: z := by simp
  rw [e1]
  have hp' : (m ++ .ins 0 [] :: z)[p]? = some (.lst (Ts.map W.str)) := app_at hp
  have hq2 : (m ++ .ins 0 [] :: z)[m.length]? = some (.ins 0 []) := app_new
  have e2 : (m ++ .ins 0 [] :: z).set m.length (.ins 0 [(0, .tup (Ts.map W.str))]) = m ++ .ins 0 [(0, .tup (Ts.map W.str))] :: z := by
    rw [List.set_append_right _ _ (Nat.le_refl _)]
    simp
  have hq3 := hq z
  rw [← e2] at hq3
  generalize m ++ .ins 0 [] :: z = M at hp' hq2 hq3 ⊢
  simp [bltW, seqW, hp', r_fldW hq2, putA]
  exact hq3
def spotG (X : Tx) (r : Int) : W → Option W := fun v => match v with
  | .tup [.int i, .str [ch]] => if subT [ch] X = true then some (.tup [.int r, .int i]) else none
  | _ => none
def Spot (Ts : List Tx) (X : Tx) (v : W) : Prop := ∃ (r c : Nat) (t : Tx) (ch : Char), v = .tup [.int r, .int c] ∧ Ts[r]? = some t ∧ t[c]? = some ch ∧ subT [ch] X = true
structure SpotInv (Ts : List Tx) (X : Tx) (p : Nat) (m : Mem) (i : Nat) (e : Env) (m' : Mem) : Prop where
  ex : ∃ found z a b, m' = m ++ .lst found :: z ∧ e = [some (.obj p), some (.str X), some (.obj m.length), a, b, none, none] ∧ found.length ≤ i * 1000 ∧ (∀ v ∈ found, Spot Ts X v) ∧ ∀ j t, j < i → Ts[j]? = some t → (∃ c ∈ t, subT [c] X = true) → found ≠ []
theorem sp_spots2 (hT : T.fn 0 = some MB.b0_spots) (hn : 1 ≤ n) {p h w : Nat} {Ts : List Tx} {X : Tx} (F : Fl Ts h w) (hp : m[p]? = some (.lst (Ts.map W.str))) (hq : ∀ found z, found.length ≤ 1000000 → (∀ v ∈ found, Spot Ts X v) → ((∃ t ∈ Ts, ∃ c ∈ t, subT [c] X = true) → found ≠ []) → Q (.obj m.length) (m ++ .lst found :: z)) : Rwp (callN T n 0 [.obj p, .str X] m) Q := by
  obtain ⟨n, rfl⟩ : ∃ k, n = k + 1 := ⟨n - 1, by omega⟩
  refine call_wp hT rfl ?_
  have hl := F.len
  have h1 := F.h1
  have w1 := F.w1
  simp [MB.b0_spots]
  rw [s_for]
  simp [srcOfE, srcOf, app_at hp]
  have hp0 : (m ++ [Ob.lst []])[p]? = some (.lst (Ts.map W.str)) := app_at hp
  refine for_wp (ws := enumW (Ts.map W.str)) (SpotInv Ts X p m) (by rw [len_elv hp0, len_enumW]; omega) ⟨[], [], none, none, rfl, rfl, by simp, (fun v hv => (by cases hv)), fun j t hj => (by omega)⟩ (fun i e m' I => ?_) (fun i x e m' hx I => ?_) (fun e m' I => ?_)
  · obtain ⟨f, z, a, b, rfl, _⟩ := I.ex
    exact sees_elv (app_at hp)
  · obtain ⟨f, z, a, b, rfl, rfl, hf, hv, hne⟩ := I.ex
    obtain ⟨t, ht, rfl⟩ : ∃ t, Ts[i]? = some t ∧ x = .tup [.int i, .str t] := by
      simp only [enumW, List.getElem?_mapIdx, List.getElem?_map, Option.map_map, Option.map_eq_some_iff] at hx
      obtain ⟨t, h1, h2⟩ := hx
      exact ⟨t, h1, h2.symm⟩
    have g := F.row t (List.mem_of_getElem? ht)
    have hi : i < Ts.length := (List.getElem?_eq_some_iff.mp ht).1
    have hM0 : (m ++ Ob.lst f :: z)[m.length]? = some (.lst f) := app_new
    have hset : ∀ o, (m ++ Ob.lst f :: z).set m.length o = m ++ o :: z := fun o => by
      rw [List.set_append_right _ _ (Nat.le_refl _)]
      simp
    have hlen : m.length < (m ++ Ob.lst f :: z).length := by simp
    unfold forB
    simp only [asgT, asgL]
    generalize hM : m ++ Ob.lst f :: z = M at hM0 hlen ⊢
    simp [rcvOk, isLstO, hM0]
    rw [w_lc]
    simp [srcOfE, srcOf]
    refine lc_pure (ws := enumW (t.map fun c => W.str [c])) (spotG X i) (by simp [Src.len, Bs.len, enumW]) (by rw [len_enumW]; simp [SL]; omega) (fun acc z => sees_est) (fun j x acc z2 P hx2 hP => ?_) (fun z2 => ?_)
    · obtain ⟨d, hd, rfl⟩ : ∃ d, t[j]? = some d ∧ x = .tup [.int j, .str [d]] := by
        simp only [enumW, List.getElem?_mapIdx, List.getElem?_map, Option.map_map, Option.map_eq_some_iff] at hx2
        obtain ⟨d, h1, h2⟩ := hx2
        exact ⟨d, h1, h2.symm⟩
      unfold lcB1
      have hP2 := hP z2
      simp only [spotG] at hP2
      simp [asgT, asgL, wipeE, cmpop, inW, Rwp_ofO]
      cases q : subT [d] X with
      | true => simp [q] at hP2 ⊢; exact hP2
      | false => simp [q] at hP2 ⊢; exact hP2
    · have hM2 : (M ++ Ob.lst ((enumW (t.map fun c => W.str [c])).filterMap (spotG X i)) :: z2)[m.length]? = some (.lst f) := app_at hM0
      have hM3 : (M ++ Ob.lst ((enumW (t.map fun c => W.str [c])).filterMap (spotG X i)) :: z2)[M.length]? = some (.lst ((enumW (t.map fun c => W.str [c])).filterMap (spotG X i))) := app_new
      have hsl : ((enumW (t.map fun c => W.str [c])).filterMap (spotG X i)).length ≤ 1000 := by
        refine Nat.le_trans (List.length_filterMap_le _ _) ?_
        rw [len_enumW]
        simp
        omega
      have hsp : ∀ v ∈ (enumW (t.map fun c => W.str [c])).filterMap (spotG X i), Spot Ts X v := by
        intro v hv
        obtain ⟨y, hy, e⟩ := List.mem_filterMap.mp hv
        obtain ⟨j, hj⟩ := List.getElem?_of_mem hy
        simp only [enumW, List.getElem?_mapIdx, List.getElem?_map, Option.map_map, Option.map_eq_some_iff] at hj
        obtain ⟨d, h1, h2⟩ := hj
        subst h2
        simp only [spotG, Function.comp] at e
        split at e
        · rename_i g
          exact ⟨i, j, t, d, (Option.some.inj e).symm, ht, h1, g⟩
        · cases e
      have hset2 : (M ++ Ob.lst ((enumW (t.map fun c => W.str [c])).filterMap (spotG X i)) :: z2).set m.length (.lst (f ++ (enumW (t.map fun c => W.str [c])).filterMap (spotG X i))) = m ++ .lst (f ++ (enumW (t.map fun c => W.str [c])).filterMap (spotG X i)) :: (z ++ Ob.lst ((enumW (t.map fun c => W.str [c])).filterMap (spotG X i)) :: z2) := by
        rw [List.set_append_left _ _ hlen, ← hM, hset]
        simp
      have hnl : (∃ c ∈ t, subT [c] X = true) → (enumW (t.map fun c => W.str [c])).filterMap (spotG X i) ≠ [] := by
        rintro ⟨c, hc, hcx⟩ e
        obtain ⟨j, hj⟩ := List.getElem?_of_mem hc
        have h1 : (enumW (t.map fun c => W.str [c]))[j]? = some (.tup [.int j, .str [c]]) := by
          simp only [enumW, List.getElem?_mapIdx, List.getElem?_map, hj, Option.map_some]
        have h2 : W.tup [.int i, .int j] ∈ (enumW (t.map fun c => W.str [c])).filterMap (spotG X i) := List.mem_filterMap.mpr ⟨_, List.mem_of_getElem? h1, by simp only [spotG, hcx, if_true]⟩
        rw [e] at h2
        cases h2
      generalize (enumW (t.map fun c => W.str [c])).filterMap (spotG X i) = L at hM2 hM3 hsl hsp hset2 hnl ⊢
      simp [bmW, hM2, hM3]
      rw [if_pos (by simp [SL]; omega), Rwp_ok, hset2]
      refine ⟨_, _, _, _, rfl, rfl, by simp; omega, fun v hv2 => ?_, fun j t' hj ht' hc => ?_⟩
      · rcases List.mem_append.mp hv2 with g | g
        · exact hv v g
        · exact hsp v g
      · by_cases hji : j = i
        · subst hji
          rw [ht] at ht'
          cases ht'
          have := hnl hc
          simp [this]
        · have := hne j t' (by omega) ht' hc
          simp [this]
  · obtain ⟨f, z, a, b, rfl, rfl, hf, hv, hne⟩ := I.ex
    rw [len_enumW, List.length_map] at hf hne
    simp
    exact hq f z (by omega) hv fun ⟨t, ht, hc⟩ => by
      obtain ⟨j, hj⟩ := List.getElem?_of_mem ht
      exact hne j t (List.getElem?_eq_some_iff.mp hj).1 hj hc
theorem sp_spots (hT : T.fn 0 = some MB.b0_spots) (hn : 1 ≤ n) {p h w : Nat} {Ts : List Tx} {X : Tx} (F : Fl Ts h w) (hp : m[p]? = some (.lst (Ts.map W.str))) (hq : ∀ found z, found.length ≤ 1000000 → (∀ v ∈ found, Spot Ts X v) → Q (.obj m.length) (m ++ .lst found :: z)) : Rwp (callN T n 0 [.obj p, .str X] m) Q :=
  sp_spots2 hT hn F hp fun found z h1 h2 _ => hq found z h1 h2
end Sp
end

section
set_option Elab.async false
set_option linter.all false
set_option maxRecDepth 100000
set_option maxHeartbeats 4000000
/-! Sp8: law k09. -/
namespace Sp
open Mi
variable {T : Tab} {C : Cl} {m : Mem} {Q : W → Mem → Prop} {n : Nat}
def Keep (m m' : Mem) : Prop := ∀ (l : Nat) (o : Ob), m[l]? = some o → m'[l]? = some o
theorem Keep.refl (m : Mem) : Keep m m := fun _ _ h => h
theorem Keep.trans {m m1 m2 : Mem} (a : Keep m m1) (b : Keep m1 m2) : Keep m m2 := fun l o h => b l o (a l o h)
theorem Ext.keep {m m' : Mem} (h : Ext m m') : Keep m m' := fun _ _ g => h.at g
theorem Frm.keep {m m' : Mem} {g : Mem} (h : Frm (m ++ g) m.length m') : Keep m m' := fun l o e => h.at (app_at e) (by have := lt_of_at e; omega)
theorem r_addF {ns : List Int} {k : Nat} {ys : List W} (h : m[k]? = some (.lst ys)) (hz : ns.length + ys.length ≤ SL) : Rwp (binop .add (.frz ns) (.obj k) m) Q = Q (.obj m.length) (m ++ [.lst (ns.map W.int ++ ys)]) := by
  have hz' : (ns.map W.int).length + ys.length ≤ SL := by simpa using hz
  simp only [binop, isLst, h, if_pos hz', Rwp_alloc]
theorem r_slcL {k : Nat} {ws : List W} {l u : Option Int} (h : m[k]? = some (.lst ws)) : Rwp (slcW (.obj k) l u m) Q = Q (.obj m.length) (m ++ [.lst (cut ws l u)]) := by
  simp only [slcW, isLst, h, Rwp_alloc]
theorem cut_mem {ws : List W} {l u : Option Int} {v : W} (h : v ∈ cut ws l u) : v ∈ ws := List.mem_of_mem_drop (List.mem_of_mem_take h)
theorem cut_len {ws : List W} {l u : Option Int} : (cut ws l u).length ≤ ws.length := by
  unfold cut
  rw [List.length_take, List.length_drop]
  omega
theorem sub_spot {c : Char} (h : c ∈ signsX) (g : subT [c] ['.', '~', 'a', 'b', 'c', 'd'] = true) : subT [c] openX = true := by
  simp only [signsX, List.mem_cons, List.not_mem_nil, or_false] at h
  rcases h with rfl | rfl | rfl | rfl | rfl | rfl | rfl | rfl
  · exact absurd g (by decide +kernel)
  · decide +kernel
  · exact absurd g (by decide +kernel)
  all_goals decide +kernel
theorem spot_stand {Ts : List Tx} {h w : Nat} (F : Fl Ts h w) {v : W} (s : Spot Ts ['.', '~', 'a', 'b', 'c', 'd'] v) : ∃ r c : Int, v = .tup [.int r, .int c] ∧ subT [cell Ts h w r c] openX = true := by
  obtain ⟨r, c, t, ch, rfl, h1, h2, h3⟩ := s
  have hl := F.len
  have hr := (List.getElem?_eq_some_iff.mp h1).1
  have hc := (List.getElem?_eq_some_iff.mp h2).1
  have g := F.row t (List.mem_of_getElem? h1)
  refine ⟨r, c, rfl, ?_⟩
  have i : Ins h w r c := ⟨by omega, by omega⟩
  have e : cell Ts h w r c = ch := by
    unfold cell
    rw [if_pos i]
    simp [h1, h2]
  rw [e]
  exact sub_spot (g.2 ch (List.mem_of_getElem? h2)) h3
theorem dirs_of {d : Char} (h : d ∈ (['u', 'r', 'd', 'l'] : Tx)) : ∃ dr dc, (d, dr, dc) ∈ dirs := by
  simp only [List.mem_cons, List.not_mem_nil, or_false] at h
  rcases h with rfl | rfl | rfl | rfl
  · exact ⟨-1, 0, by simp [dirs]⟩
  · exact ⟨0, 1, by simp [dirs]⟩
  · exact ⟨1, 0, by simp [dirs]⟩
  · exact ⟨0, -1, by simp [dirs]⟩
structure L09 (ns : List Int) (M : Mem) (e : Env) (m' : Mem) : Prop where
  keep : Keep M m'
  env : ∃ a1 a2 a3 a4 a5, e = [some (.frz ns), a1, a2, a3, a4, a5, none]
structure L09i (M : Mem) (b0 b1 b2 b3 b4 : W) (e : Env) (m' : Mem) : Prop where
  keep : Keep M m'
  env : ∃ a5, e = [some b0, some b1, some b2, some b3, some b4, a5, none]
theorem sp_law09 (K : FlOk T C) (X : TexOk T) (t0 : T.fn 0 = some MB.b0_spots) (t1 : T.fn 1 = some MB.b1_between) (t2 : T.fn 2 = some MB.b2_way_right) (t10 : T.fn 10 = some MB.b10_source) (t11 : T.fn 11 = some MB.b11_law) (hn : 10 ≤ n) {ns : List Int} (hl : ns.length ≤ 63) : Rwp (callN T n 11 [.frz ns] []) (fun w _ => w = .bl true) := by
  obtain ⟨n, rfl⟩ : ∃ k, n = k + 1 := ⟨n - 1, by omega⟩
  refine call_wp t11 rfl ?_
  simp [MB.b11_law]
  rw [s_for]
  simp [w_slc, CE.isN, part]
  rw [r_addF (ys := [.int 0]) (by rfl) (by simp [SL]; omega)]
  simp
  rw [r_slcL (ws := ns.map W.int ++ [.int 0]) (by rfl)]
  have hcl := cut_len (ws := ns.map W.int ++ [.int 0]) (l := none) (u := some 4)
  have hcm : ∀ v ∈ cut (ns.map W.int ++ [.int 0]) none (some 4), ∃ i, v = .int i := by
    intro v hv
    rcases List.mem_append.mp (cut_mem hv) with h | h
    · obtain ⟨i, _, rfl⟩ := List.mem_map.mp h
      exact ⟨i, rfl⟩
    · exact ⟨0, by simpa using h⟩
  simp only [List.length_append, List.length_map, List.length_singleton] at hcl
  generalize cut (ns.map W.int ++ [.int 0]) none (some 4) = us at hcl hcm ⊢
  generalize hM : ([Ob.lst [W.int 0], Ob.lst (ns.map W.int ++ [W.int 0])] : Mem) = M0
  have hMl : M0.length = 2 := by rw [← hM]; rfl
  have hM1 : (M0 ++ [Ob.lst us])[M0.length]? = some (.lst us) := app_new
  generalize M0 ++ [Ob.lst us] = M1 at hM1 ⊢
  simp [srcOf, hM1]
  refine for_wp (ws := us) (fun i e m' => L09 ns M1 e m') (by rw [len_lv hM1]; omega) ⟨Keep.refl _, _, _, _, _, _, rfl⟩ (fun i e m' I => sees_lv (I.keep _ _ hM1)) (fun i x e m' hx I => ?_) (fun e m' I => trivial)
  obtain ⟨seed, rfl⟩ := hcm x (List.mem_of_getElem? hx)
  obtain ⟨hK, a1, a2, a3, a4, a5, rfl⟩ := I
  unfold forB
  simp [asgT]
  refine sp_source t10 (by omega) ?_
  refine sp_texts X (by omega) (k := 0) (hi := 6) (wi := 6) ⟨seed, seed, app_new⟩ (by omega) (by omega) (by omega) fun Ts p k' m2 hT hp0 hp k0 k1 hs hF => ?_
  have hK2 : Keep m' m2 := hF.keep
  obtain ⟨h, w, g0, g1, g2, g3, g4, g5⟩ := hT
  have F : Fl Ts h w := ⟨g0, by omega, g2, by omega, g4, g5⟩
  have hK3 := hK.trans hK2
  simp [w_make, K.c, K.ini]
  refine sp_make K (by omega) F g1 g3 hp fun z => ⟨rfl, ?_⟩
  have ha : FlAt (m2 ++ .ins 0 [(0, .tup (Ts.map W.str))] :: z) m2.length Ts := app_new
  have hp3 : (m2 ++ .ins 0 [(0, .tup (Ts.map W.str))] :: z)[p]? = some (.lst (Ts.map W.str)) := app_at hp
  have hK4 : Keep M1 (m2 ++ .ins 0 [(0, .tup (Ts.map W.str))] :: z) := hK3.trans (Ext.keep ⟨_, rfl⟩)
  generalize m2 ++ .ins 0 [(0, .tup (Ts.map W.str))] :: z = m3 at ha hp3 hK4 ⊢
  rw [s_for]
  simp
  refine sp_spots t0 (by omega) F hp3 fun found z2 hfl hfs => ?_
  have ha5 : FlAt (m3 ++ .lst found :: z2) m2.length Ts := app_at ha
  have hf5 : (m3 ++ .lst found :: z2)[m3.length]? = some (.lst found) := app_new
  have hK5 : Keep M1 (m3 ++ .lst found :: z2) := hK4.trans (Ext.keep ⟨_, rfl⟩)
  generalize m3 ++ .lst found :: z2 = m5 at ha5 hf5 hK5 ⊢
  simp [srcOf, hf5]
  refine for_wp (ws := found) (fun i e m7 => L09i m5 (.frz ns) (.int seed) (.obj m'.length) (.obj p) (.obj m2.length) e m7) (by rw [len_lv hf5]; omega) ⟨Keep.refl _, _, rfl⟩ (fun i e m' I => sees_lv (I.keep _ _ hf5)) (fun i x e m6 hx I => ?_) (fun e m' I => ?_)
  · obtain ⟨hK6, a5, rfl⟩ := I
    obtain ⟨r, c, rfl, hst⟩ := spot_stand F (hfs x (List.mem_of_getElem? hx))
    have ha6 : FlAt m6 m2.length Ts := hK6 _ _ ha5
    unfold forB
    simp [asgT]
    rw [w_lc]
    simp [srcOf]
    refine lc_pure (ws := (['u', 'r', 'd', 'l'] : Tx).map fun c => W.str [c]) (fun _ => some (.bl true)) (by simp [Src.len, Bs.len]) (by simp [SL]) (fun acc z => sees_st) (fun i x acc z P hx hP => ?_) (fun z => ?_)
    · obtain ⟨d, hd, rfl⟩ := List.mem_map.mp (List.mem_of_getElem? hx)
      obtain ⟨dr, dc, hdd⟩ := dirs_of hd
      unfold lcB1
      simp [asgT, wipeE]
      refine sp_way K t1 t2 (by omega) F (app_at ha6) hdd hst fun m' hE => ?_
      obtain ⟨z', rfl⟩ := hE
      simp
      exact hP _
    · rw [r_all app_new fun u hu => ?_]
      · simp
        exact ⟨hK6.trans (Ext.keep ⟨_, rfl⟩), _, rfl⟩
      · obtain ⟨_, _, e⟩ := List.mem_filterMap.mp hu
        exact (Option.some.inj e).symm
  · obtain ⟨hK6, a5, rfl⟩ := I
    exact ⟨hK5.trans hK6, _, _, _, _, _, rfl⟩
end Sp
end

section
set_option Elab.async false
set_option linter.all false
set_option maxRecDepth 100000
set_option maxHeartbeats 4000000
/-! MiT: more rules: comprehensions with two clauses, equal lists. -/
namespace Mi
open PySem
section
variable {A D : Type} {T : Tab} {cl : Caller} {e : Env} {m : Mem} {Q Q' : W → Mem → Prop} {N N' : Env → Mem → Prop} {Rt Rt' : W → Mem → Prop}
@[simp] theorem Rwp_seq {r : R Unit} {F : Mem → R Unit} {P : Unit → Mem → Prop} : Rwp (r.seq F) P = Rwp r fun _ m1 => Rwp (F m1) P := by cases r <;> rfl
/-- the outer turn of a comprehension with two clauses -/
def lcB2 (T : Tab) (cl : Caller) (own own2 : List Nat) (elt : CE) (t : CT) (t2 : CT) (it2 : CI) (ifs2 : CL) (e : Env) (k : Nat) : W → Mem → R Unit := fun x m2 => match asgT m2 t x (wipeE e own) with
  | some e2 => (evI T cl it2 e2 m2).bind fun s2 m3 => lcRun s2 k (lcB1 T cl own2 elt t2 ifs2 e2) (s2.len m3 + 1) 0 m3
  | none => .bad
theorem w_lc2 {own own2 : List Nat} {elt : CE} {t : CT} {it : CI} {t2 : CT} {it2 : CI} {ifs2 : CL} : Rwp (ev T cl (.lc2 own own2 elt t it t2 it2 ifs2) e m) Q = Rwp (evI T cl it e m) fun s m1 => Rwp (lcRun2 s (lcB2 T cl own own2 elt t t2 it2 ifs2 e m1.length) (s.len m1 + 1) 0 (m1 ++ [.lst []])) fun _ m5 => Q (.obj m1.length) m5 := by
  rw [ev_lc2]
  simp only [Rwp_bind]
  rfl
/-- a list that stands already gets more -/
theorem lc_wpA {s : Src} {k : Nat} {body : W → Mem → R (Option W)} {ws acc0 : List W} {n : Nat} {P' : Unit → Mem → Prop} (P : Nat → List W → Mem → Prop) (hn : ws.length < n) (hz : acc0.length + ws.length ≤ SL) (h0 : P 0 acc0 m) (hv : ∀ i acc m, P i acc m → s.sees m ws)
    (step : ∀ i x acc m, ws[i]? = some x → P i acc m → Rwp (body x m) fun o m' => match o with
      | none => P (i + 1) acc m'
      | some w => m'[k]? = some (.lst acc) ∧ P (i + 1) (acc ++ [w]) (m'.set k (.lst (acc ++ [w])))) (done : ∀ acc m, P ws.length acc m → P' () m) : Rwp (lcRun s k body n 0 m) P' := by
  have go : ∀ (n i : Nat) (acc : List W) (m : Mem), ws.length < n + i → i ≤ ws.length → acc.length ≤ acc0.length + i → P i acc m → Rwp (lcRun s k body n i m) P' := by
    intro n
    induction n with
    | zero => intro i acc m h1 h2 _ _; omega
    | succ n ih =>
      intro i acc m h1 h2 h3 p
      unfold lcRun
      rw [hv i acc m p i]
      by_cases hi : i < ws.length
      · rw [List.getElem?_eq_getElem hi]
        have st := step i ws[i] acc m (List.getElem?_eq_getElem hi) p
        dsimp only
        cases q : body ws[i] m with
        | ok o m' =>
          rw [q] at st
          cases o with
          | none => exact ih (i + 1) acc m' (by omega) hi (by omega) st
          | some w =>
            obtain ⟨s1, s2⟩ := st
            dsimp only
            rw [s1]
            dsimp only
            rw [if_pos (by omega)]
            exact ih (i + 1) (acc ++ [w]) _ (by omega) hi (by simp; omega) s2
        | rse _ _ _ => rw [q] at st; exact st.elim
        | bad => rw [q] at st; exact st.elim
      · have e1 : i = ws.length := by omega
        rw [List.getElem?_eq_none (by omega)]
        subst e1
        exact done acc m p
  exact go n 0 acc0 m (by omega) (Nat.zero_le _) (Nat.le_refl _) h0
theorem lc_pureA {s : Src} {body : W → Mem → R (Option W)} {ws acc0 : List W} {z0 : Mem} {n : Nat} {P' : Unit → Mem → Prop} (g : W → Option W) (hn : ws.length < n) (hz : acc0.length + ws.length ≤ SL) (hs : ∀ (acc : List W) (z : Mem), s.sees (m ++ .lst acc :: z) ws)
    (hb : ∀ (i : Nat) (x : W) (acc : List W) (z : Mem) (P : Option W → Mem → Prop), ws[i]? = some x → (∀ z', P (g x) (m ++ .lst acc :: z')) → Rwp (body x (m ++ .lst acc :: z)) P) (done : ∀ z, P' () (m ++ .lst (acc0 ++ ws.filterMap g) :: z)) : Rwp (lcRun s m.length body n 0 (m ++ .lst acc0 :: z0)) P' := by
  refine lc_wpA (fun i acc m' => acc = acc0 ++ (ws.take i).filterMap g ∧ ∃ z, m' = m ++ .lst acc :: z) hn hz ⟨by simp, z0, rfl⟩ (fun i acc m' h => by obtain ⟨_, z, rfl⟩ := h; exact hs acc z) (fun i x acc m' hx h => ?_) (fun acc m' h => ?_)
  · obtain ⟨ha, z, rfl⟩ := h
    refine hb i x acc z _ hx fun z' => ?_
    have e1 : (ws.take (i + 1)).filterMap g = (ws.take i).filterMap g ++ [x].filterMap g := by
      rw [List.take_add_one, hx, List.filterMap_append] <;> rfl
    cases q : g x with
    | none =>
      refine ⟨?_, z', rfl⟩
      rw [e1, ha]
      simp [q]
    | some w =>
      refine ⟨app_new, ?_, z', ?_⟩
      · rw [e1, ha]
        simp [q]
      · rw [List.set_append_right _ _ (Nat.le_refl _)]
        simp
  · obtain ⟨rfl, z, rfl⟩ := h
    rw [List.take_length]
    exact done z
/-- two clauses, elements that leave the memory as it is but for things behind -/
theorem lc2_pure {s : Src} {body : W → Mem → R Unit} {ws : List W} {n : Nat} {P' : Unit → Mem → Prop} (g : W → List W) (hn : ws.length < n) (hs : ∀ (acc : List W) (z : Mem), s.sees (m ++ .lst acc :: z) ws)
    (hb : ∀ (i : Nat) (x : W) (acc : List W) (z : Mem) (P : Unit → Mem → Prop), ws[i]? = some x → acc = (ws.take i).flatMap g → (∀ z', P () (m ++ .lst (acc ++ g x) :: z')) → Rwp (body x (m ++ .lst acc :: z)) P) (done : ∀ z, P' () (m ++ .lst (ws.flatMap g) :: z)) : Rwp (lcRun2 s body n 0 (m ++ [.lst []])) P' := by
  have go : ∀ (n i : Nat) (z : Mem), ws.length < n + i → i ≤ ws.length → Rwp (lcRun2 s body n i (m ++ .lst ((ws.take i).flatMap g) :: z)) P' := by
    intro n
    induction n with
    | zero => intro i z h1 h2; omega
    | succ n ih =>
      intro i z h1 h2
      unfold lcRun2
      rw [hs _ z i]
      by_cases hi : i < ws.length
      · rw [List.getElem?_eq_getElem hi]
        simp only [Rwp_seq]
        refine hb i ws[i] _ z _ (List.getElem?_eq_getElem hi) rfl fun z' => ?_
        have e1 : (ws.take i).flatMap g ++ g ws[i] = (ws.take (i + 1)).flatMap g := by
          rw [List.take_add_one, List.getElem?_eq_getElem hi, List.flatMap_append]
          simp only [Option.toList, List.flatMap_cons, List.flatMap_nil, List.append_nil]
        rw [e1]
        exact ih (i + 1) z' (by omega) hi
      · have e1 : i = ws.length := by omega
        rw [List.getElem?_eq_none (by omega)]
        subst e1
        rw [List.take_length]
        exact done z
  exact go n 0 [] (by omega) (Nat.zero_le _)
/-! ### dict comprehensions -/
def dcB1 (T : Tab) (cl : Caller) (own : List Nat) (kx vx : CE) (t : CT) (ifs : CL) (e : Env) : W → Mem → R (Option (W × W)) := fun x m2 => match asgT m2 t x (wipeE e own) with
  | some e2 => (evT T cl ifs e2 m2).bind fun b m3 => if b then (ev T cl kx e2 m3).bind fun p m4 => (ev T cl vx e2 m4).bind fun q m5 => .ok (some (p, q)) m5 else .ok none m3
  | none => .bad
theorem w_dc {own : List Nat} {kx vx : CE} {t : CT} {it : CI} {ifs : CL} : Rwp (ev T cl (.dc own kx vx t it ifs) e m) Q = Rwp (evI T cl it e m) fun s m1 => Rwp (dcRun s m1.length (dcB1 T cl own kx vx t ifs e) (s.len m1 + 1) 0 (m1 ++ [.dct []])) fun _ m5 => Q (.obj m1.length) m5 := by
  rw [ev_dc]
  simp only [Rwp_bind]
  rfl
theorem putW_len (kvs : List (W × W)) (k v : W) : (putW kvs k v).length ≤ kvs.length + 1 := by
  unfold putW
  split <;> simp
theorem mergeW_len : ∀ (l kvs : List (W × W)), (mergeW kvs l).length ≤ kvs.length + l.length
  | [], kvs => by simp [mergeW]
  | p :: l, kvs => by
    have h1 := mergeW_len l (putW kvs p.1 p.2)
    have h2 := putW_len kvs p.1 p.2
    simp only [mergeW, List.foldl_cons, List.length_cons] at h1 ⊢
    omega
theorem dc_pure {s : Src} {body : W → Mem → R (Option (W × W))} {ws : List W} {n : Nat} {P' : Unit → Mem → Prop} (g : W → Option (W × W)) (hn : ws.length < n) (hz : ws.length ≤ SL) (hs : ∀ (kvs : List (W × W)) (z : Mem), s.sees (m ++ .dct kvs :: z) ws)
    (hb : ∀ (i : Nat) (x : W) (kvs : List (W × W)) (z : Mem) (P : Option (W × W) → Mem → Prop), ws[i]? = some x → (∀ z', P (g x) (m ++ .dct kvs :: z')) → Rwp (body x (m ++ .dct kvs :: z)) P) (hk : ∀ x p, x ∈ ws → g x = some p → isKey p.1 = true)
    (done : ∀ z, P' () (m ++ .dct (mergeW [] (ws.filterMap g)) :: z)) : Rwp (dcRun s m.length body n 0 (m ++ [.dct []])) P' := by
  have go : ∀ (n i : Nat) (z : Mem), ws.length < n + i → i ≤ ws.length → Rwp (dcRun s m.length body n i (m ++ .dct (mergeW [] ((ws.take i).filterMap g)) :: z)) P' := by
    intro n
    induction n with
    | zero => intro i z h1 h2; omega
    | succ n ih =>
      intro i z h1 h2
      unfold dcRun
      rw [hs _ z i]
      by_cases hi : i < ws.length
      · have hx := List.getElem?_eq_getElem hi
        rw [hx]
        dsimp only
        have e1 : (ws.take (i + 1)).filterMap g = (ws.take i).filterMap g ++ [ws[i]].filterMap g := by
          rw [List.take_add_one, hx, List.filterMap_append] <;> rfl
        have hlen : (mergeW [] ((ws.take i).filterMap g)).length < SL := by
          have h3 := mergeW_len ((ws.take i).filterMap g) []
          have h4 := List.length_filterMap_le g (ws.take i)
          rw [List.length_take] at h4
          simp only [List.length_nil] at h3
          omega
        have st := hb i ws[i] (mergeW [] ((ws.take i).filterMap g)) z (fun o m' => ∃ z', o = g ws[i] ∧ m' = m ++ .dct (mergeW [] ((ws.take i).filterMap g)) :: z') hx fun z' => ⟨z', rfl, rfl⟩
        cases q : body ws[i] (m ++ .dct (mergeW [] ((ws.take i).filterMap g)) :: z) with
        | ok o m' =>
          rw [q] at st
          obtain ⟨z', rfl, rfl⟩ := st
          cases qg : g ws[i] with
          | none =>
            have e2 : (ws.take (i + 1)).filterMap g = (ws.take i).filterMap g := by rw [e1]; simp [qg]
            rw [← e2]
            exact ih (i + 1) z' (by omega) hi
          | some p =>
            have hkp := hk _ p (List.getElem_mem hi) qg
            have e2 : mergeW [] ((ws.take (i + 1)).filterMap g) = putW (mergeW [] ((ws.take i).filterMap g)) p.1 p.2 := by
              rw [e1]
              simp [qg, mergeW, List.foldl_append]
            dsimp only
            rw [app_new]
            dsimp only
            rw [if_pos ⟨hkp, hlen⟩, List.set_append_right _ _ (Nat.le_refl _), Nat.sub_self, List.set_cons_zero, ← e2]
            exact ih (i + 1) z' (by omega) hi
        | rse _ _ _ => rw [q] at st; exact st.elim
        | bad => rw [q] at st; exact st.elim
      · have e1 : i = ws.length := by omega
        rw [List.getElem?_eq_none (by omega)]
        subst e1
        rw [List.take_length]
        exact done z
  exact go n 0 [] (by omega) (Nat.zero_le _)
/-! ### ranges -/
theorem rng1 {j : Int} {k : Nat} (h : j = k) (hz : k ≤ 1000000) : rngW [.int j] = some ((List.range k).map fun (i : Nat) => .int i) := by
  subst h
  have h1 : smI (k : Int) = true := smI_iff.mpr (by omega)
  simp only [rngW, if_pos h1, Int.toNat_natCast]
theorem rng2 {i j : Int} {k : Nat} (h : (j - i).toNat = k) (h1 : -1000000 ≤ i ∧ i ≤ 1000000) (h2 : -1000000 ≤ j ∧ j ≤ 1000000) : rngW [.int i, .int j] = some ((List.range k).map fun (l : Nat) => .int (i + l)) := by
  have h3 : smI i = true ∧ smI j = true := ⟨smI_iff.mpr (by omega), smI_iff.mpr (by omega)⟩
  simp only [rngW, if_pos h3, h]
/-! ### equal things -/
theorem eqvAll_refl : ∀ {ds : List PyData}, (∀ d ∈ ds, PyData.eqv d d = true) → PyData.eqvAll ds ds = true
  | [], _ => by simp [PyData.eqvAll]
  | d :: ds, h => by
    simp [PyData.eqvAll, h d List.mem_cons_self, eqvAll_refl fun x hx => h x (List.mem_cons_of_mem _ hx)]
theorem optL_mem {f : A → Option D} : ∀ {l : List A} {r : List D}, optL f l = some r → ∀ d ∈ r, ∃ a ∈ l, f a = some d
  | [], r, h, d, hd => by cases h; cases hd
  | a :: l, r, h, d, hd => by
    simp only [optL] at h
    split at h
    · rename_i b s e1 e2
      cases h
      rcases List.mem_cons.mp hd with rfl | hd
      · exact ⟨a, List.mem_cons_self, e1⟩
      · obtain ⟨a', h1, h2⟩ := optL_mem e2 d hd
        exact ⟨a', List.mem_cons_of_mem _ h1, h2⟩
    · cases h
theorem toD_refl : ∀ (n : Nat) (w : W) (d : PyData), toD m n w = some d → PyData.eqv d d = true := by
  intro n
  induction n with
  | zero =>
    intro w d h
    cases w <;> simp only [toD, Option.some.injEq] at h <;> first
      | (subst h; simp [PyData.eqv])
      | cases h
  | succ n ih =>
    intro w d h
    have lst : ∀ {ws : List W} {f : List PyData → PyData}, (∀ ds, PyData.eqv (f ds) (f ds) = PyData.eqvAll ds ds) → (optL (toD m n) ws).map f = some d → PyData.eqv d d = true := by
      intro ws f hf h
      obtain ⟨ds, h1, rfl⟩ := Option.map_eq_some_iff.mp h
      rw [hf]
      exact eqvAll_refl fun d hd => by
        obtain ⟨a, _, e⟩ := optL_mem h1 d hd
        exact ih a d e
    cases w with
    | tup ws => exact lst (f := .tuple) (fun ds => by simp [PyData.eqv]) h
    | frz ns =>
      simp only [toD, Option.some.injEq] at h
      subst h
      simp only [PyData.eqv]
      exact eqvAll_refl fun d hd => by
        obtain ⟨i, _, rfl⟩ := List.mem_map.mp hd
        simp [PyData.eqv]
    | obj k =>
      simp only [toD] at h
      split at h
      · exact lst (f := .list) (fun ds => by simp [PyData.eqv]) h
      · cases h
    | exc c v => simp only [toD] at h; cases h
    | _ =>
      simp only [toD, Option.some.injEq] at h
      subst h
      simp [PyData.eqv]
theorem eqW_refl {w : W} (h : (toD m DD w).isSome = true) : eqW m w w = some true := by
  obtain ⟨d, hd⟩ := Option.isSome_iff_exists.mp h
  simp only [eqW, hd, toD_refl _ _ _ hd]
/-- two lists of the same things -/
theorem eqW_lsts {k l : Nat} {ws : List W} (h : m[k]? = some (.lst ws)) (g : m[l]? = some (.lst ws)) (hd : (optL (toD m 19) ws).isSome = true) : eqW m (.obj k) (.obj l) = some true := by
  obtain ⟨ds, hd⟩ := Option.isSome_iff_exists.mp hd
  have e1 : toD m DD (.obj k) = some (.list ds) := by
    show toD m (19 + 1) (.obj k) = _
    simp only [toD, h, hd, Option.map_some]
  have e2 : toD m DD (.obj l) = some (.list ds) := by
    show toD m (19 + 1) (.obj l) = _
    simp only [toD, g, hd, Option.map_some]
  simp only [eqW, e1, e2]
  rw [toD_refl _ _ _ e1]
theorem optL_isSome {f : A → Option D} : ∀ {l : List A}, (∀ a ∈ l, (f a).isSome = true) → (optL f l).isSome = true
  | [], _ => rfl
  | a :: l, h => by
    obtain ⟨b, hb⟩ := Option.isSome_iff_exists.mp (h a List.mem_cons_self)
    obtain ⟨s, hs⟩ := Option.isSome_iff_exists.mp (optL_isSome fun x hx => h x (List.mem_cons_of_mem _ hx))
    simp only [optL, hb, hs]
    rfl
end
end Mi
end

section
set_option Elab.async false
set_option linter.all false
set_option maxRecDepth 100000
set_option maxHeartbeats 4000000
/-! Sp11: places, open places; a floor cut. -/
namespace Sp
open Mi
variable {T : Tab} {C : Cl} {m : Mem} {Q : W → Mem → Prop} {n : Nat}
def rowW (w : Nat) (r : Int) : List W := (List.range w).map fun (c : Nat) => .tup [.int r, .int c]
def allW (h w : Nat) : List W := (List.range h).flatMap fun (r : Nat) => rowW w r
def rowO (w : Nat) : W → List W := fun x => match x with
  | .int r => rowW w r
  | _ => []
theorem flat_le {A D : Type} {g : A → List D} {b : Nat} (h : ∀ x, (g x).length ≤ b) : ∀ l : List A, (l.flatMap g).length ≤ l.length * b
  | [] => by simp
  | a :: l => by
    have h1 := h a
    have h2 := flat_le h l
    rw [List.flatMap_cons, List.length_append, List.length_cons, Nat.succ_mul]
    omega
theorem rowO_len {w : Nat} (x : W) : (rowO w x).length ≤ w := by
  unfold rowO
  split <;> simp [rowW]
theorem sp_places (K : FlOk T C) (hT : T.fn 35 = some MB.b35_Floor_places) (hn : 2 ≤ n) {p h w : Nat} {Ts : List Tx} (F : Fl Ts h w) (ha : FlAt m p Ts) (hq : ∀ z, Q (.obj m.length) (m ++ .lst (allW h w) :: z)) : Rwp (callN T n 35 [.obj p] m) Q := by
  obtain ⟨n, rfl⟩ : ∃ k, n = k + 1 := ⟨n - 1, by omega⟩
  refine call_wp hT rfl ?_
  have h1 := F.h1
  have w1 := F.w1
  have ha' := ha
  unfold FlAt at ha'
  simp [MB.b35_Floor_places, w_meth, ha', K.c, K.m5]
  refine sp_size K (by omega) F ha ?_
  simp [asgT, asgL]
  rw [w_lc2]
  simp [rng1 (j := h) rfl (show h ≤ 1000000 by omega)]
  refine lc2_pure (ws := (List.range h).map fun (i : Nat) => W.int i) (rowO w) (by simp [Src.len, Bs.len]) (fun acc z => sees_st) (fun i x acc z P hx hacc hP => ?_) (fun z => ?_)
  · have hx2 := List.mem_of_getElem? hx
    generalize hG : lcB2 _ _ _ _ _ _ _ _ _ _ _ = G
    obtain ⟨r, hr, hr2⟩ := List.mem_map.mp hx2
    clear hx2
    have hal : acc.length ≤ h * w := by
      rw [hacc]
      refine Nat.le_trans (flat_le rowO_len _) (Nat.mul_le_mul_right _ ?_)
      rw [List.length_take, List.length_map, List.length_range]
      omega
    have hhw : h * w ≤ 1000 * 1000 := Nat.mul_le_mul h1 w1
    clear hacc
    subst hr2
    rw [← hG]
    clear hG
    unfold lcB2
    simp [asgT, wipeE]
    rw [rng1 (j := w) rfl (show w ≤ 1000000 by omega)]
    simp only [optP_some]
    refine lc_pureA (ws := (List.range w).map fun (i : Nat) => W.int i) (fun y => some (.tup [.int r, y])) (by simp [Src.len, Bs.len]) (by simp [SL]; omega) (fun acc z => sees_st) (fun j y acc z P hy hP => ?_) (fun z => ?_)
    · obtain ⟨c, hc, rfl⟩ := List.mem_map.mp (List.mem_of_getElem? hy)
      unfold lcB1
      simp [asgT, wipeE]
      exact hP _
    · have e : ((List.range w).map fun (i : Nat) => W.int i).filterMap (fun y => some (W.tup [.int r, y])) = rowO w (.int r) := by
        simp only [rowO, rowW, List.filterMap_map]
        generalize List.range w = l
        induction l with
        | nil => rfl
        | cons a l ih => simpa using ih
      rw [e]
      exact hP z
  · have e : ((List.range h).map fun (i : Nat) => W.int i).flatMap (rowO w) = allW h w := by
      simp [allW, List.flatMap_map, rowO]
    rw [e]
    exact hq z
def opX : Tx := ['.', 'a', 'b', 'c', 'd']
def opnB (Ts : List Tx) (h w : Nat) : W → Bool := fun v => match v with
  | .tup [.int r, .int c] => subT [cell Ts h w r c] opX
  | _ => false
def openW (Ts : List Tx) (h w : Nat) : List W := (allW h w).filter (opnB Ts h w)
theorem all_mem {h w : Nat} {v : W} : v ∈ allW h w ↔ ∃ r c : Nat, r < h ∧ c < w ∧ v = .tup [.int r, .int c] := by
  simp only [allW, rowW, List.mem_flatMap, List.mem_map, List.mem_range]
  constructor
  · rintro ⟨r, hr, c, hc, rfl⟩; exact ⟨r, c, hr, hc, rfl⟩
  · rintro ⟨r, c, hr, hc, rfl⟩; exact ⟨r, hr, c, hc, rfl⟩
theorem all_len {h w : Nat} : (allW h w).length ≤ h * w := by
  have := flat_le (g := fun (r : Nat) => rowW w r) (b := w) (fun x => by simp [rowW]) (List.range h)
  simpa [allW] using this
theorem sp_open (K : FlOk T C) (hT : T.fn 35 = some MB.b35_Floor_places) (hT2 : T.fn 34 = some MB.b34_Floor_open_places) (m8 : C.meths.lookup 8 = some 35) (hn : 6 ≤ n) {p h w : Nat} {Ts : List Tx} (F : Fl Ts h w) (ha : FlAt m p Ts)
    (hq : ∀ q m', Ext m m' → m.length ≤ q → m'[q]? = some (.lst (openW Ts h w)) → Q (.obj q) m') : Rwp (callN T n 34 [.obj p] m) Q := by
  obtain ⟨n, rfl⟩ : ∃ k, n = k + 1 := ⟨n - 1, by omega⟩
  refine call_wp hT2 rfl ?_
  have hhw : h * w ≤ 1000 * 1000 := Nat.mul_le_mul F.h1 F.w1
  have hal := all_len (h := h) (w := w)
  have ha' := ha
  unfold FlAt at ha'
  simp [MB.b34_Floor_open_places]
  rw [w_lc]
  simp [w_meth, ha', K.c, m8]
  refine sp_places K hT (by omega) F ha fun z => ?_
  have hE : Ext m (m ++ .lst (allW h w) :: z) := ⟨_, rfl⟩
  have hl : (m ++ .lst (allW h w) :: z)[m.length]? = some (.lst (allW h w)) := app_new
  have hml : m.length ≤ (m ++ .lst (allW h w) :: z).length := by simp
  generalize m ++ .lst (allW h w) :: z = M at hE hl hml ⊢
  simp [srcOf, hl]
  refine lc_pure (ws := allW h w) (fun v => if opnB Ts h w v = true then some v else none) (by rw [len_lv hl]; omega) (by simp only [SL]; omega) (fun acc z => sees_lv (app_at hl)) (fun i x acc z P hx hP => ?_) (fun z => ?_)
  · obtain ⟨r, c, hr, hc, rfl⟩ := all_mem.mp (List.mem_of_getElem? hx)
    have ha2 : FlAt (M ++ Ob.lst acc :: z) p Ts := app_at (hE.at ha)
    have hP' := hP z
    have hb : opnB Ts h w (.tup [.int r, .int c]) = subT [cell Ts h w r c] ['.', 'a', 'b', 'c', 'd'] := rfl
    rw [hb] at hP'
    generalize M ++ Ob.lst acc :: z = M2 at ha2 hP' ⊢
    have ha3 := ha2
    unfold FlAt at ha3
    unfold lcB1
    simp [asgT, wipeE, w_meth, ha3, K.c, K.m2]
    refine sp_seen K (by omega) F ha2 ?_
    simp [K.g7, cmpop, inW, Rwp_ofO]
    cases q : subT [cell Ts h w r c] ['.', 'a', 'b', 'c', 'd'] with
    | true => simp [q] at hP' ⊢; exact hP'
    | false => simp [q] at hP' ⊢; exact hP'
  · have e : (allW h w).filterMap (fun v => if opnB Ts h w v = true then some v else none) = openW Ts h w := by
      unfold openW
      generalize allW h w = l
      induction l with
      | nil => rfl
      | cons a l ih =>
        rw [List.filterMap_cons, List.filter_cons]
        cases q : opnB Ts h w a <;> simp [q, ih]
    rw [e]
    exact hq _ _ hE.app hml app_new
/-! ### a place cut -/
structure Cut (Ts Us : List Tx) (h w : Nat) (pr pc : Int) : Prop where
  fl : Fl Us h w
  ice : cell Ts h w pr pc = '~'
  at_ : cell Us h w pr pc = '.'
  ne : ∀ r c : Int, ¬ (r = pr ∧ c = pc) → cell Us h w r c = cell Ts h w r c
theorem Way.same {Ts Us : List Tx} {h w : Nat} {r c dr dc : Int} {k : Nat} (a : Way Ts h w r c dr dc k) (he : ∀ i : Nat, 1 ≤ i → i ≤ k → cell Us h w (r + i * dr) (c + i * dc) = cell Ts h w (r + i * dr) (c + i * dc)) : Way Us h w r c dr dc k ∧ endW Us h w r c dr dc k = endW Ts h w r c dr dc k := by
  have := a.k1
  refine ⟨⟨a.k1, fun i h1 h2 => by rw [he i h1 (by omega)]; exact a.ice i h1 h2, by rw [he k (by omega) (Nat.le_refl _)]; exact a.stop⟩, ?_⟩
  unfold endW
  rw [he k (by omega) (Nat.le_refl _)]
theorem dir_ne {x : Char} {dr dc : Int} (hx : (x, dr, dc) ∈ dirs) {r c : Int} {i j : Nat} (e : r + i * dr = r + j * dr ∧ c + i * dc = c + j * dc) : i = j := by
  rcases dir_cases hx with ⟨rfl, rfl⟩ | ⟨rfl, rfl⟩ | ⟨rfl, rfl⟩ | ⟨rfl, rfl⟩ <;> omega
theorem dir_add {x : Char} {dr dc : Int} (hx : (x, dr, dc) ∈ dirs) (r c : Int) {i j : Nat} : r + i * dr + j * dr = r + (i + j : Nat) * dr ∧ c + i * dc + j * dc = c + (i + j : Nat) * dc := by
  rcases dir_cases hx with ⟨rfl, rfl⟩ | ⟨rfl, rfl⟩ | ⟨rfl, rfl⟩ | ⟨rfl, rfl⟩ <;> omega
/-- where a way leads, cut -/
theorem cut_way {Ts Us : List Tx} {h w : Nat} {pr pc r c dr dc : Int} {x : Char} {k l : Nat} (U : Cut Ts Us h w pr pc) (hx : (x, dr, dc) ∈ dirs) (a : Way Ts h w r c dr dc k) (b : Way Us h w r c dr dc l) :
    endW Us h w r c dr dc l = endW Ts h w r c dr dc k ∨ (¬ (r = pr ∧ c = pc) ∧ endW Us h w r c dr dc l = .tup [.int pr, .int pc] ∧ ∀ k2, Way Us h w pr pc dr dc k2 → endW Us h w pr pc dr dc k2 = endW Ts h w r c dr dc k) := by
  rcases Classical.em (∃ i : Nat, 1 ≤ i ∧ i < k ∧ r + i * dr = pr ∧ c + i * dc = pc) with ⟨i, i1, i2, e1, e2⟩ | hno
  · refine .inr ⟨fun ⟨e3, e4⟩ => ?_, ?_, fun k2 w2 => ?_⟩
    · have q := dir_ne hx (r := r) (c := c) (i := i) (j := 0) ⟨by rw [e1, e3]; simp, by rw [e2, e4]; simp⟩
      omega
    · have w1 : Way Us h w r c dr dc i := ⟨i1, fun j h1 h2 => by
        rw [U.ne _ _ fun ⟨q1, q2⟩ => by
          have q := dir_ne hx (r := r) (c := c) (i := i) (j := j) ⟨by rw [e1, q1], by rw [e2, q2]⟩
          omega]
        exact a.ice j h1 (by omega), by rw [e1, e2, U.at_]; decide⟩
      have q := b.uniq w1
      subst q
      unfold endW
      rw [e1, e2, U.at_, if_neg (by decide), if_neg (by decide)]
      unfold pos
      rw [e1, e2]
    · have hc : ∀ j : Nat, 1 ≤ j → cell Us h w (pr + j * dr) (pc + j * dc) = cell Ts h w (r + (i + j : Nat) * dr) (c + (i + j : Nat) * dc) := fun j hj => by
        obtain ⟨q1, q2⟩ := dir_add hx r c (i := i) (j := j)
        rw [← q1, ← q2, e1, e2]
        refine U.ne _ _ fun ⟨z1, z2⟩ => ?_
        have q := dir_ne hx (r := pr) (c := pc) (i := j) (j := 0) ⟨by rw [z1]; simp, by rw [z2]; simp⟩
        omega
      have w1 : Way Us h w pr pc dr dc (k - i) := ⟨by omega, fun j h1 h2 => by rw [hc j h1]; exact a.ice _ (by omega) (by omega), by
        rw [hc _ (by omega), show i + (k - i) = k by omega]; exact a.stop⟩
      have q := w2.uniq w1
      subst q
      unfold endW
      rw [hc _ (by omega), show i + (k - i) = k by omega]
      unfold pos
      have z : ∀ j : Nat, pr + j * dr = r + (i + j : Nat) * dr ∧ pc + j * dc = c + (i + j : Nat) * dc := fun j => by
        obtain ⟨q1, q2⟩ := dir_add hx r c (i := i) (j := j)
        rw [← q1, ← q2, e1, e2]
        exact ⟨rfl, rfl⟩
      rw [(z (k - i - 1)).1, (z (k - i - 1)).2, (z (k - i)).1, (z (k - i)).2, show i + (k - i - 1) = k - 1 by omega, show i + (k - i) = k by omega]
  · refine .inl ?_
    have s := a.same (Us := Us) fun i h1 h2 => U.ne _ _ fun ⟨q1, q2⟩ => by
      by_cases hi : i = k
      · subst hi
        have z := a.stop
        rw [q1, q2, U.ice] at z
        exact z rfl
      · exact hno ⟨i, h1, by omega, q1, q2⟩
    have q := b.uniq s.1
    subst q
    exact s.2
/-- old led to the cut place: new does too -/
theorem cut_to {Ts Us : List Tx} {h w : Nat} {pr pc r c dr dc : Int} {x : Char} {k l : Nat} (U : Cut Ts Us h w pr pc) (hx : (x, dr, dc) ∈ dirs) (a : Way Ts h w r c dr dc k) (b : Way Us h w r c dr dc l) (e : endW Ts h w r c dr dc k = .tup [.int pr, .int pc]) : endW Us h w r c dr dc l = .tup [.int pr, .int pc] := by
  rcases cut_way U hx a b with q | ⟨_, q, _⟩
  · rw [q, e]
  · exact q
/-- back home -/
theorem way_back {Ts : List Tx} {h w : Nat} {r c dr dc : Int} {x : Char} {k Kn : Nat} (hx : (x, dr, dc) ∈ dirs) (wy : Way Ts h w r c dr dc k) (h1 : cell Ts h w r c ≠ '#') (h2 : cell Ts h w r c ≠ 'x') (h3 : cell Ts h w r c ≠ '~') (hK0 : 1 ≤ Kn) (hK : Kn ≤ k) :
    ∀ k2, Way Ts h w (r + Kn * dr) (c + Kn * dc) (-dr) (-dc) k2 → endW Ts h w (r + Kn * dr) (c + Kn * dc) (-dr) (-dc) k2 = .tup [.int r, .int c] := by
  have hdd := dir_cases hx
  have hdr : dr = -1 ∨ dr = 0 ∨ dr = 1 := by omega
  have hdc : dc = -1 ∨ dc = 0 ∨ dc = 1 := by omega
  intro k2 w2
  have hcell : ∀ i : Nat, i ≤ Kn → cell Ts h w (r + Kn * dr + i * (-dr)) (c + Kn * dc + i * (-dc)) = cell Ts h w (r + (Kn - i : Nat) * dr) (c + (Kn - i : Nat) * dc) := fun i hi => by rw [one_le hdr r hi, one_le hdc c hi]
  have e2 : cell Ts h w (r + Kn * dr + Kn * (-dr)) (c + Kn * dc + Kn * (-dc)) = cell Ts h w r c := by
    rw [hcell Kn (Nat.le_refl _)]
    simp
  have w1 : Way Ts h w (r + Kn * dr) (c + Kn * dc) (-dr) (-dc) Kn := ⟨by omega, fun i a b => by rw [hcell i (by omega)]; exact wy.ice (Kn - i) (by omega) (by omega), by rw [e2]; exact h3⟩
  have e3 := w2.uniq w1
  subst e3
  unfold endW
  rw [e2, if_neg h1, if_neg h2]
  unfold pos
  rw [one_le hdr r (Nat.le_refl _), one_le hdc c (Nat.le_refl _)]
  simp
/-! ### values that ways lead to -/
def EV (v : W) : Prop := v = .non ∨ ∃ r c : Int, v = .tup [.int r, .int c]
theorem ev_end {Ts : List Tx} {h w : Nat} {r c dr dc : Int} {k : Nat} (a : Way Ts h w r c dr dc k) : EV (endW Ts h w r c dr dc k) := by
  rcases end_cases a with e | ⟨K, e, _⟩
  · exact .inl e
  · exact .inr ⟨_, _, e⟩
theorem eqW_nt {a b : Int} : eqW m .non (.tup [.int a, .int b]) = some false := by
  simp [eqW, DD, toD, optL, PySem.PyData.eqv]
theorem eqW_tn {a b : Int} : eqW m (.tup [.int a, .int b]) .non = some false := by
  simp [eqW, DD, toD, optL, PySem.PyData.eqv]
theorem eqW_ev {a b : W} (ha : EV a) (hb : EV b) : ∃ q : Bool, (∀ m : Mem, eqW m a b = some q) ∧ (q = true ↔ a = b) := by
  rcases ha with rfl | ⟨r, c, rfl⟩
  · rcases hb with rfl | ⟨r, c, rfl⟩
    · exact ⟨true, fun m => eqW_nn, by simp⟩
    · exact ⟨false, fun m => eqW_nt, by simp⟩
  · rcases hb with rfl | ⟨r', c', rfl⟩
    · exact ⟨false, fun m => eqW_tn, by simp⟩
    · exact ⟨_, fun m => eqW_tup2, by simp⟩
theorem eqW_same {a : W} (ha : EV a) : eqW m a a = some true := by
  obtain ⟨q, h1, h2⟩ := eqW_ev ha ha
  rw [h1, h2.mpr rfl]
theorem eqW_diff {a b : W} (ha : EV a) (hb : EV b) (h : a ≠ b) : eqW m a b = some false := by
  obtain ⟨q, h1, h2⟩ := eqW_ev ha hb
  rw [h1]
  cases q with
  | true => exact absurd (h2.mp rfl) h
  | false => rfl
end Sp
end

section
set_option Elab.async false
set_option linter.all false
set_option maxRecDepth 100000
set_option maxHeartbeats 4000000
/-! Wp1: turns. -/
namespace Sp
open Mi
variable {T : Tab} {C : Cl} {m : Mem} {Q : W → Mem → Prop} {n : Nat}
def urdl : Tx := ['u', 'r', 'd', 'l']
def turnsX : List Tx := [['u', 'r', 'd', 'l'], ['r', 'd', 'l', 'u'], ['d', 'l', 'u', 'r'], ['l', 'u', 'r', 'd'], ['u', 'l', 'd', 'r'], ['d', 'r', 'u', 'l'], ['l', 'd', 'r', 'u'], ['r', 'u', 'l', 'd']]
/-- which deed -/
def dix (x : Char) : Nat := if x = 'u' then 0 else if x = 'r' then 1 else if x = 'd' then 2 else 3
/-- what a deed becomes -/
def tw (t : Tx) (x : Char) : Char := t.getD (dix x) 'u'
structure TuOk (T : Tab) : Prop where
  t14 : T.fn 14 = some MB.b14_want_deed
  t37 : T.fn 37 = some MB.b37_is_turn
  t48 : T.fn 48 = some MB.b48_want_row
  t53 : T.fn 53 = some MB.b53_want_turn
  t54 : T.fn 54 = some MB.b54_way
  t55 : T.fn 55 = some MB.b55_row_turned
  t56 : T.fn 56 = some MB.b56_then
  g6 : T.gl 6 = some (.str urdl)
  g8 : T.gl 8 = some (.tup (turnsX.map W.str))
theorem eqv_sx {x y : Tx} : PySem.PyData.eqv (.str (sx x)) (.str (sx y)) = decide (x = y) := by
  have h := eqW_str (m := []) (x := x) (y := y)
  simp only [eqW, DD, toD] at h
  exact Option.some.inj h
theorem optL_strs {n : Nat} : ∀ Ts : List Tx, optL (toD m n) (Ts.map W.str) = some (Ts.map fun t => PySem.PyData.str (sx t))
  | [] => rfl
  | t :: Ts => by
    simp only [List.map_cons, optL, optL_strs Ts]
    cases n <;> rfl
theorem inW_strs {x : Tx} {Ts : List Tx} : inW m (.str x) (.tup (Ts.map W.str)) = some (Ts.any fun y => decide (y = x)) := by
  simp only [inW, dctAt, seqW, inL, optL_strs]
  show some (List.any _ _) = _
  rw [List.any_map]
  congr 1
  congr 1
  funext y
  exact eqv_sx
theorem sp_isturn (K : TuOk T) (hn : 1 ≤ n) {t : Tx} (ht : t ∈ turnsX) (hq : Q (.bl true) m) : Rwp (callN T n 37 [.str t] m) Q := by
  obtain ⟨n, rfl⟩ : ∃ k, n = k + 1 := ⟨n - 1, by omega⟩
  refine call_wp K.t37 rfl ?_
  have e : (turnsX.any fun y => decide (y = t)) = true := List.any_eq_true.mpr ⟨t, ht, by simp⟩
  simp [MB.b37_is_turn, r_isi (w := .str t) (k := .str) (b := true) rfl, K.g8, cmpop, inW_strs, e, Rwp_ofO]
  exact hq
theorem sp_wantturn (K : TuOk T) (hn : 2 ≤ n) {t : Tx} (ht : t ∈ turnsX) (hq : Q .non m) : Rwp (callN T n 53 [.str t] m) Q := by
  obtain ⟨n, rfl⟩ : ∃ k, n = k + 1 := ⟨n - 1, by omega⟩
  refine call_wp K.t53 rfl ?_
  simp [MB.b53_want_turn]
  refine sp_isturn K (by omega) ht ?_
  simp
  exact hq
theorem deed_ix {x : Char} (hx : x ∈ urdl) : indexT urdl [x] = some (dix x) ∧ dix x < 4 := by
  simp only [urdl, List.mem_cons, List.not_mem_nil, or_false] at hx
  rcases hx with rfl | rfl | rfl | rfl
  · exact ⟨ix_u, by decide⟩
  · exact ⟨ix_r, by decide⟩
  · exact ⟨ix_d, by decide⟩
  · exact ⟨ix_l, by decide⟩
theorem turn_len {t : Tx} (ht : t ∈ turnsX) : t.length = 4 := by
  simp only [turnsX, List.mem_cons, List.not_mem_nil, or_false] at ht
  rcases ht with rfl | rfl | rfl | rfl | rfl | rfl | rfl | rfl <;> rfl
theorem tw_at {t : Tx} (ht : t ∈ turnsX) {x : Char} (hx : x ∈ urdl) : t[dix x]? = some (tw t x) := by
  have h1 := turn_len ht
  have h2 := (deed_ix hx).2
  have h3 : dix x < t.length := by omega
  unfold tw
  rw [List.getD_eq_getElem?_getD, List.getElem?_eq_getElem h3] <;> rfl
theorem tw_deed {t : Tx} (ht : t ∈ turnsX) {x : Char} (hx : x ∈ urdl) : tw t x ∈ urdl := by
  simp only [turnsX, List.mem_cons, List.not_mem_nil, or_false] at ht
  simp only [urdl, List.mem_cons, List.not_mem_nil, or_false] at hx
  rcases ht with rfl | rfl | rfl | rfl | rfl | rfl | rfl | rfl <;> rcases hx with rfl | rfl | rfl | rfl <;> decide
theorem tw_turn {s t : Tx} (hs : s ∈ turnsX) (ht : t ∈ turnsX) : s.map (tw t) ∈ turnsX := by
  simp only [turnsX, List.mem_cons, List.not_mem_nil, or_false] at ht hs
  rcases hs with rfl | rfl | rfl | rfl | rfl | rfl | rfl | rfl <;> rcases ht with rfl | rfl | rfl | rfl | rfl | rfl | rfl | rfl <;> decide
theorem turn_deeds {t : Tx} (ht : t ∈ turnsX) : ∀ x ∈ t, x ∈ urdl := by
  simp only [turnsX, List.mem_cons, List.not_mem_nil, or_false] at ht
  rcases ht with rfl | rfl | rfl | rfl | rfl | rfl | rfl | rfl <;> decide
theorem deed_dir {x : Char} (hx : x ∈ urdl) : ∃ dr dc, (x, dr, dc) ∈ dirs := dirs_of hx
theorem sp_wantdeed (K : TuOk T) (hn : 1 ≤ n) {x : Char} (hx : x ∈ urdl) (hq : Q .non m) : Rwp (callN T n 14 [.str [x]] m) Q := by
  obtain ⟨n, rfl⟩ : ∃ k, n = k + 1 := ⟨n - 1, by omega⟩
  refine call_wp K.t14 rfl ?_
  obtain ⟨dr, dc, hd⟩ := deed_dir hx
  have hs : subT [x] urdl = true := sub_deed hd
  simp [MB.b14_want_deed, r_isi (w := .str [x]) (k := .str) (b := true) rfl, K.g6, cmpop, inW, hs]
  rw [r_lenX (by simp [SL])]
  simp [ofO, eqW_int]
  exact hq
theorem sp_wayT (K : TuOk T) (hn : 3 ≤ n) {t : Tx} (ht : t ∈ turnsX) {x : Char} (hx : x ∈ urdl) (hq : Q (.str [tw t x]) m) : Rwp (callN T n 54 [.str t, .str [x]] m) Q := by
  obtain ⟨n, rfl⟩ : ∃ k, n = k + 1 := ⟨n - 1, by omega⟩
  refine call_wp K.t54 rfl ?_
  simp [MB.b54_way]
  refine sp_wantturn K (by omega) ht ?_
  refine sp_wantdeed K (by omega) hx ?_
  have z : t.length ≤ SL := by rw [turn_len ht]; decide
  simp [K.g6, rcvOk, isStrW, bmW, (deed_ix hx).1, Rwp_ofO]
  rw [r_idxX z, getI_nat (by omega)]
  simp only [Int.toNat_natCast, tw_at ht hx, optP_some]
  exact hq
structure WrowInv (x : Tx) (m : Mem) (e : Env) (m' : Mem) : Prop where
  mem : m' = m
  env : ∃ a b, e = [some (.str x), a, b]
theorem sp_wantrow (K : TuOk T) (hn : 1 ≤ n) {x : Tx} (hx : ∀ c ∈ x, c ∈ urdl) (hz : x.length ≤ 1000000) (hq : Q .non m) : Rwp (callN T n 48 [.str x] m) Q := by
  obtain ⟨n, rfl⟩ : ∃ k, n = k + 1 := ⟨n - 1, by omega⟩
  refine call_wp K.t48 rfl ?_
  simp [MB.b48_want_row, r_isi (w := .str x) (k := .str) (b := true) rfl]
  rw [s_for]
  simp [srcOfE, srcOf]
  refine for_wp (ws := enumW (x.map fun c => W.str [c])) (fun i e m' => WrowInv x m e m') (by simp [Src.len, Bs.len, len_enumW]) ⟨rfl, _, _, rfl⟩ (fun i e m' I => sees_est) (fun i w e m' hw I => ?_) (fun e m' I => by rw [I.mem]; exact hq)
  obtain ⟨rfl, a, b, rfl⟩ := I
  obtain ⟨d, hd, rfl⟩ : ∃ d, x[i]? = some d ∧ w = .tup [.int i, .str [d]] := by
    simp only [enumW, List.getElem?_mapIdx, List.getElem?_map, Option.map_map, Option.map_eq_some_iff] at hw
    obtain ⟨t, h1, h2⟩ := hw
    exact ⟨t, h1, h2.symm⟩
  obtain ⟨dr, dc, hdd⟩ := deed_dir (hx d (List.mem_of_getElem? hd))
  have hs : subT [d] urdl = true := sub_deed hdd
  unfold forB
  simp [asgT, asgL, K.g6, cmpop, inW, hs, Rwp_ofO]
  exact ⟨rfl, _, _, rfl⟩
theorem sp_rowturned (K : TuOk T) (hn : 4 ≤ n) {t : Tx} (ht : t ∈ turnsX) {x : Tx} (hx : ∀ c ∈ x, c ∈ urdl) (hz : x.length ≤ 1000000) (hq : ∀ m', Ext m m' → Q (.str (x.map (tw t))) m') : Rwp (callN T n 55 [.str t, .str x] m) Q := by
  obtain ⟨n, rfl⟩ : ∃ k, n = k + 1 := ⟨n - 1, by omega⟩
  refine call_wp K.t55 rfl ?_
  simp [MB.b55_row_turned]
  refine sp_wantturn K (by omega) ht ?_
  refine sp_wantrow K (by omega) hx hz ?_
  simp [rcvOk, isStrW]
  rw [w_lc]
  simp [srcOf]
  refine lc_pure (ws := x.map fun c => W.str [c]) (fun w => match w with | .str [c] => some (.str [tw t c]) | _ => none) (by simp [Src.len, Bs.len]) (by simp only [SL, List.length_map]; omega) (fun acc z => sees_st) (fun i w acc z P hw hP => ?_) (fun z => ?_)
  · obtain ⟨d, hd, rfl⟩ := List.mem_map.mp (List.mem_of_getElem? hw)
    unfold lcB1
    simp [asgT, wipeE]
    refine sp_wayT K (by omega) ht (hx d hd) ?_
    exact hP z
  · have e : ((x.map fun c => W.str [c]).filterMap fun w => match w with | .str [c] => some (W.str [tw t c]) | _ => none) = (x.map (tw t)).map fun c => W.str [c] := by
      rw [List.filterMap_map, List.map_map]
      clear hx hz hq
      induction x with
      | nil => rfl
      | cons a l ih => simpa using ih
    rw [e, r_joinO app_new (by simp only [SL, List.length_map]; omega)]
    exact hq _ ⟨_, rfl⟩
theorem sp_then (K : TuOk T) (hn : 5 ≤ n) {s t : Tx} (hs : s ∈ turnsX) (ht : t ∈ turnsX) (hq : ∀ m', Ext m m' → Q (.str (s.map (tw t))) m') : Rwp (callN T n 56 [.str s, .str t] m) Q := by
  obtain ⟨n, rfl⟩ : ∃ k, n = k + 1 := ⟨n - 1, by omega⟩
  refine call_wp K.t56 rfl ?_
  simp [MB.b56_then]
  refine sp_wantturn K (by omega) hs ?_
  refine sp_wantturn K (by omega) ht ?_
  exact sp_rowturned K (by omega) ht (turn_deeds hs) (by rw [turn_len hs]; decide) hq
end Sp
end

section
set_option Elab.async false
set_option linter.all false
set_option maxRecDepth 100000
set_option maxHeartbeats 4000000
/-! Wp2: a world: stands, deeds. -/
namespace Sp
open Mi
variable {T : Tab} {C D : Cl} {m : Mem} {Q : W → Mem → Prop} {n : Nat}
abbrev St := Option ((Int × Int) × Tx)
def stW : St → W
  | none => .non
  | some ((r, c), t) => .tup [.tup [.int r, .int c], .str t]
/-- what a floor with a book is -/
structure Wo where
  Ts : List Tx
  h : Nat
  w : Nat
  β : Char → Tx
def lettersX : Tx := ['a', 'b', 'c', 'd']
structure Wo.Ok (o : Wo) (bk : List (W × W)) : Prop where
  fl : Fl o.Ts o.h o.w
  bk : ∀ l ∈ lettersX, (∃ r c : Int, cell o.Ts o.h o.w r c = l) → getK bk (.str [l]) = some (.str (o.β l))
  tn : ∀ l ∈ lettersX, (∃ r c : Int, cell o.Ts o.h o.w r c = l) → o.β l ∈ turnsX
def okSt (o : Wo) : St → Prop
  | none => True
  | some ((r, c), t) => subT [cell o.Ts o.h o.w r c] openX = true ∧ t ∈ turnsX
/-- where one comes -/
inductive Goes (o : Wo) (r c : Int) (x : Char) : Option (Int × Int) → Prop
  | mk {dr dc : Int} {k : Nat} {p : Option (Int × Int)} : (x, dr, dc) ∈ dirs → Way o.Ts o.h o.w r c dr dc k → endW o.Ts o.h o.w r c dr dc k = (match p with | none => .non | some (r', c') => .tup [.int r', .int c']) → Goes o r c x p
theorem Goes.uniq {o : Wo} {r c : Int} {x : Char} {p q : Option (Int × Int)} (a : Goes o r c x p) (b : Goes o r c x q) : p = q := by
  obtain ⟨h1, h2, h3⟩ := a
  obtain ⟨g1, g2, g3⟩ := b
  have e : ∀ {d1 d2 e1 e2 : Int}, (x, d1, d2) ∈ dirs → (x, e1, e2) ∈ dirs → d1 = e1 ∧ d2 = e2 := by
    intro d1 d2 e1 e2 i j
    simp only [dirs, List.mem_cons, List.not_mem_nil, or_false, Prod.mk.injEq] at i j
    rcases i with ⟨rfl, rfl, rfl⟩ | ⟨rfl, rfl, rfl⟩ | ⟨rfl, rfl, rfl⟩ | ⟨rfl, rfl, rfl⟩ <;> simp at j <;> omega
  obtain ⟨rfl, rfl⟩ := e h1 g1
  have ek := h2.uniq g2
  subst ek
  rw [h3] at g3
  cases p with
  | none => cases q with
    | none => rfl
    | some q => cases g3
  | some p => cases q with
    | none => cases g3
    | some q =>
      obtain ⟨p1, p2⟩ := p
      obtain ⟨q1, q2⟩ := q
      simp at g3
      rw [g3.1, g3.2]
/-- one deed -/
inductive Step (o : Wo) : St → Char → St → Prop
  | lost {x : Char} : Step o none x none
  | pit {r c : Int} {t : Tx} {x : Char} : Goes o r c (tw t x) none → Step o (some ((r, c), t)) x none
  | stay {r c : Int} {t : Tx} {x : Char} : Goes o r c (tw t x) (some (r, c)) → Step o (some ((r, c), t)) x (some ((r, c), t))
  | go {r c r' c' : Int} {t : Tx} {x : Char} : Goes o r c (tw t x) (some (r', c')) → ¬ (r' = r ∧ c' = c) → subT [cell o.Ts o.h o.w r' c'] lettersX = false → Step o (some ((r, c), t)) x (some ((r', c'), t))
  | turn {r c r' c' : Int} {t : Tx} {x : Char} : Goes o r c (tw t x) (some (r', c')) → ¬ (r' = r ∧ c' = c) → cell o.Ts o.h o.w r' c' ∈ lettersX → Step o (some ((r, c), t)) x (some ((r', c'), t.map (tw (o.β (cell o.Ts o.h o.w r' c')))))
theorem sub_letter {c : Char} (h : c ∈ signsX) : subT [c] lettersX = decide (c ∈ lettersX) := by
  simp only [signsX, List.mem_cons, List.not_mem_nil, or_false] at h
  rcases h with rfl | rfl | rfl | rfl | rfl | rfl | rfl | rfl <;> decide +kernel
/-- where a way ends one can stand -/
theorem end_stand {Ts : List Tx} {h w : Nat} (F : Fl Ts h w) {r c dr dc : Int} {k : Nat} {r' c' : Int} (wy : Way Ts h w r c dr dc k) (hst : subT [cell Ts h w r c] openX = true) (e : endW Ts h w r c dr dc k = .tup [.int r', .int c']) : subT [cell Ts h w r' c'] openX = true := by
  rcases end_cases wy with e' | ⟨Kn, e', hK⟩
  · rw [e'] at e; cases e
  · rw [e'] at e
    unfold pos at e
    injection e with e
    injection e with e1 e
    injection e with e2 e
    injection e1 with e1
    injection e2 with e2
    rcases hK with ⟨g1, g2⟩ | ⟨g1, g2, g3⟩
    · by_cases h0 : Kn = 0
      · subst h0
        simp at e1 e2
        rw [← e1, ← e2]
        exact hst
      · have := wy.ice Kn (by omega) (by omega)
        rw [e1, e2] at this
        rw [this]
        decide +kernel
    · subst g1
      rw [e1, e2] at g2 g3
      obtain ⟨t, _, _, _, t4⟩ := cell_at F (cell_in g2)
      exact stand_of t4 g2 g3
theorem Step.ok {o : Wo} {bk : List (W × W)} (O : o.Ok bk) {s s' : St} {x : Char} (h : Step o s x s') (hs : okSt o s) : okSt o s' := by
  cases h with
  | lost => trivial
  | pit _ => trivial
  | stay _ => exact hs
  | go g _ _ =>
    obtain ⟨h1, h2, h3⟩ := g
    exact ⟨end_stand O.fl h2 hs.1 h3, hs.2⟩
  | turn g _ hl =>
    obtain ⟨h1, h2, h3⟩ := g
    exact ⟨end_stand O.fl h2 hs.1 h3, tw_turn hs.2 (O.tn _ hl ⟨_, _, rfl⟩)⟩
theorem Step.uniq {o : Wo} {bk : List (W × W)} (O : o.Ok bk) {s a b : St} {x : Char} (h : Step o s x a) (g : Step o s x b) : a = b := by
  cases h with
  | lost => cases g; rfl
  | pit h1 => cases g with
    | pit _ => rfl
    | stay g1 => cases h1.uniq g1
    | go g1 _ _ => cases h1.uniq g1
    | turn g1 _ _ => cases h1.uniq g1
  | stay h1 => cases g with
    | pit g1 => cases h1.uniq g1
    | stay _ => rfl
    | go g1 g2 _ => cases h1.uniq g1; exact absurd ⟨rfl, rfl⟩ g2
    | turn g1 g2 _ => cases h1.uniq g1; exact absurd ⟨rfl, rfl⟩ g2
  | @go r c r' c' t x h1 h2 h3 => cases g with
    | pit g1 => cases h1.uniq g1
    | stay g1 => cases h1.uniq g1; exact absurd ⟨rfl, rfl⟩ h2
    | go g1 _ _ => cases h1.uniq g1; rfl
    | turn g1 _ g3 =>
      cases h1.uniq g1
      have hne : cell o.Ts o.h o.w r' c' ≠ '#' := by rintro e; rw [e] at g3; revert g3; decide
      obtain ⟨t, _, _, _, t4⟩ := cell_at O.fl (cell_in hne)
      rw [sub_letter t4, decide_eq_true g3] at h3
      cases h3
  | @turn r c r' c' t x h1 h2 h3 => cases g with
    | pit g1 => cases h1.uniq g1
    | stay g1 => cases h1.uniq g1; exact absurd ⟨rfl, rfl⟩ h2
    | go g1 _ g3 =>
      cases h1.uniq g1
      have hne : cell o.Ts o.h o.w r' c' ≠ '#' := by rintro e; rw [e] at h3; revert h3; decide
      obtain ⟨t, _, _, _, t4⟩ := cell_at O.fl (cell_in hne)
      rw [sub_letter t4, decide_eq_true h3] at g3
      cases g3
    | turn g1 _ _ => cases h1.uniq g1; rfl
/-- the world at a place -/
structure WdAt (m : Mem) (p f pg : Nat) (o : Wo) (bk : List (W × W)) (goals opening : W) (s0 : St) : Prop where
  at_ : m[p]? = some (.ins 1 [(5, .obj f), (4, .obj pg), (3, goals), (2, opening), (1, stW s0)])
  fl : FlAt m f o.Ts
  pages : m[pg]? = some (.dct bk)
theorem WdAt.keep {p f pg : Nat} {o : Wo} {bk : List (W × W)} {goals opening : W} {s0 : St} {m' : Mem} (h : WdAt m p f pg o bk goals opening s0) (k : Keep m m') : WdAt m' p f pg o bk goals opening s0 := ⟨k _ _ h.at_, k _ _ h.fl, k _ _ h.pages⟩
structure WoOk (T : Tab) (D : Cl) : Prop where
  c : T.cl 1 = some D
  m9 : D.meths.lookup 9 = some 49
  m11 : D.meths.lookup 11 = some 50
  m12 : D.meths.lookup 12 = some 52
  m13 : D.meths.lookup 13 = some 57
  ini : D.init = 40
  t57 : T.fn 57 = some MB.b57_World_behind
  t52 : T.fn 52 = some MB.b52_World_gone
  t49 : T.fn 49 = some MB.b49_World_walk
  t50 : T.fn 50 = some MB.b50_World_comings
  g9 : T.gl 9 = some (.str lettersX)
theorem sp_behind (K : FlOk T C) (U : TuOk T) (V : WoOk T D) (hn : 8 ≤ n) {p f pg : Nat} {o : Wo} {bk : List (W × W)} {goals opening : W} {s0 s : St} (O : o.Ok bk) (hw : WdAt m p f pg o bk goals opening s0) (hs : okSt o s) {x : Char} (hx : x ∈ urdl)
    (hq : ∀ s' m', Step o s x s' → Ext m m' → Q (stW s') m') : Rwp (callN T n 57 [.obj p, stW s, .str [x]] m) Q := by
  obtain ⟨n, rfl⟩ : ∃ k, n = k + 1 := ⟨n - 1, by omega⟩
  refine call_wp V.t57 rfl ?_
  cases s with
  | none =>
    simp [MB.b57_World_behind, stW, isNon, cmpop]
    exact hq none m .lost (Ext.refl m)
  | some s =>
    obtain ⟨⟨r, c⟩, t⟩ := s
    obtain ⟨hst, ht⟩ := hs
    have hd := tw_deed ht hx
    obtain ⟨dr, dc, hdir⟩ := deed_dir hd
    have hfl := hw.fl
    have hfl' := hfl
    unfold FlAt at hfl'
    simp [MB.b57_World_behind, stW, isNon, cmpop, asgT, asgL, w_meth, w_fld, hw.at_, hfl', K.c, K.m0]
    refine sp_wayT U (by omega) ht hx ?_
    refine sp_goes K (by omega) O.fl hfl hdir hst fun k wy => ?_
    rcases Classical.em (endW o.Ts o.h o.w r c dr dc k = .non) with e | hne
    · rw [e]
      simp [isNon]
      exact hq none m (.pit (.mk hdir wy e)) (Ext.refl m)
    · obtain ⟨r', c', e⟩ : ∃ r' c', endW o.Ts o.h o.w r c dr dc k = .tup [.int r', .int c'] := by
        rcases ev_end wy with h | h
        · exact absurd h hne
        · exact h
      have g : Goes o r c (tw t x) (some (r', c')) := .mk hdir wy e
      rw [e]
      by_cases hsame : r' = r ∧ c' = c
      · obtain ⟨rfl, rfl⟩ := hsame
        simp [isNon, eqW_tup2, Rwp_ofO]
        exact hq (some ((r', c'), t)) m (.stay g) (Ext.refl m)
      · have hne2 : (decide (r' = r) && decide (c' = c)) = false := by
          rw [← Bool.decide_and]; simpa using hsame
        have hst2 := end_stand O.fl wy hst e
        have hcn := (stand_ne hst2).1
        obtain ⟨tt, _, _, _, t4⟩ := cell_at O.fl (cell_in hcn)
        simp [isNon, eqW_tup2, Rwp_ofO, hsame, hfl', K.c, K.m2, w_meth, w_fld, hw.at_]
        refine sp_seen K (by omega) O.fl hfl ?_
        simp [V.g9, inW, sub_letter t4]
        by_cases hl : cell o.Ts o.h o.w r' c' ∈ lettersX
        · simp [hl, hw.at_]
          show Rwp (idxW (.obj pg) (.str [cell o.Ts o.h o.w r' c']) m) _
          rw [r_idxD hw.pages rfl, O.bk _ hl ⟨_, _, rfl⟩]
          simp
          refine sp_then U (by omega) ht (O.tn _ hl ⟨_, _, rfl⟩) fun m' hE => ?_
          exact hq (some ((r', c'), t.map (tw (o.β (cell o.Ts o.h o.w r' c'))))) m' (.turn g hsame hl) hE
        · simp [hl]
          refine hq (some ((r', c'), t)) m (.go g hsame ?_) (Ext.refl m)
          rw [sub_letter t4, decide_eq_false hl]
end Sp
end

section
set_option Elab.async false
set_option linter.all false
set_option maxRecDepth 100000
set_option maxHeartbeats 4000000
/-! Wp3: walks and comings. -/
namespace Sp
open Mi
variable {T : Tab} {C D : Cl} {m : Mem} {Q : W → Mem → Prop} {n : Nat}
/-- the stands behind each deed of a row, and the last one -/
inductive Run (o : Wo) (s : St) : Tx → List St → St → Prop
  | nil : Run o s [] [s] s
  | snoc {x : Tx} {l : List St} {a b : St} {c : Char} : Run o s x l a → Step o a c b → Run o s (x ++ [c]) (l ++ [b]) b
theorem Run.len {o : Wo} {s a : St} {x : Tx} {l : List St} (h : Run o s x l a) : l.length = x.length + 1 := by
  induction h with
  | nil => rfl
  | snoc _ _ ih => simp [ih]
theorem Run.last {o : Wo} {s a : St} {x : Tx} {l : List St} (h : Run o s x l a) : l[x.length]? = some a := by
  cases h with
  | nil => rfl
  | snoc h _ =>
    have := h.len
    rw [List.getElem?_append_right (by simp; omega)]
    simp [this]
theorem Run.ok {o : Wo} {bk : List (W × W)} (O : o.Ok bk) {s a : St} {x : Tx} {l : List St} (h : Run o s x l a) (hs : okSt o s) : okSt o a := by
  induction h with
  | nil => exact hs
  | snoc _ st ih => exact st.ok O ih
theorem Run.uniq {o : Wo} {bk : List (W × W)} (O : o.Ok bk) {s a : St} {x : Tx} {l : List St} (h : Run o s x l a) : ∀ {b : St} {l' : List St}, Run o s x l' b → l = l' ∧ a = b := by
  induction h with
  | nil =>
    intro b l' g
    generalize hx : ([] : Tx) = y at g
    cases g with
    | nil => exact ⟨rfl, rfl⟩
    | snoc _ _ => simp at hx
  | @snoc x l a b c h st ih =>
    intro b' l' g
    generalize hx : x ++ [c] = y at g
    cases g with
    | nil => simp at hx
    | @snoc x2 l2 a2 b2 c2 g st2 =>
      obtain ⟨e1, e2⟩ := List.append_inj' hx rfl
      subst e1
      cases e2
      obtain ⟨rfl, rfl⟩ := ih g
      have := st.uniq O st2
      subst this
      exact ⟨rfl, rfl⟩
/-- neighbours in a walk -/
theorem Run.step {o : Wo} {s a : St} {x : Tx} {l : List St} (h : Run o s x l a) : ∀ {i : Nat} {p q : St}, l[i]? = some p → l[i + 1]? = some q → ∃ c ∈ x, Step o p c q := by
  induction h with
  | nil =>
    intro i p q h1 h2
    simp at h2
  | @snoc x l a b c h st ih =>
    intro i p q h1 h2
    have hl := h.len
    have hb := (List.getElem?_eq_some_iff.mp h2).1
    simp at hb
    by_cases hi : i + 1 < l.length
    · rw [List.getElem?_append_left hi] at h2
      rw [List.getElem?_append_left (by omega)] at h1
      obtain ⟨c', hc, q'⟩ := ih h1 h2
      exact ⟨c', by simp [hc], q'⟩
    · have hi' : i = x.length := by omega
      subst hi'
      rw [List.getElem?_append_left (by omega)] at h1
      rw [h.last] at h1
      cases h1
      rw [List.getElem?_append_right (by omega)] at h2
      simp [hl] at h2
      subst h2
      exact ⟨c, by simp, st⟩
structure GoneInv (o : Wo) (s : St) (x : Tx) (p : Nat) (m : Mem) (i : Nat) (e : Env) (m' : Mem) : Prop where
  ex : ∃ l a z b, Run o s (x.take i) l a ∧ m' = m ++ .lst (l.map stW) :: z ∧ e = [some (.obj p), some (stW s), some (.str x), some (.obj m.length), b]
theorem getI_last {A : Type} {xs : List A} {k : Nat} (h : xs.length = k + 1) : getI xs (-1) = xs[k]? := by
  unfold getI ixI
  rw [if_neg (by omega), if_pos (by omega)]
  simp only [Option.bind_some]
  congr 1
  omega
theorem sp_gone (K : FlOk T C) (U : TuOk T) (V : WoOk T D) (hn : 9 ≤ n) {p f pg : Nat} {o : Wo} {bk : List (W × W)} {goals opening : W} {s0 s : St} (O : o.Ok bk) (hw : WdAt m p f pg o bk goals opening s0) (hs : okSt o s) {x : Tx} (hx : ∀ c ∈ x, c ∈ urdl) (hz : x.length ≤ 1000000)
    (hq : ∀ l a z, Run o s x l a → Q (.obj m.length) (m ++ .lst (l.map stW) :: z)) : Rwp (callN T n 52 [.obj p, stW s, .str x] m) Q := by
  obtain ⟨n, rfl⟩ : ∃ k, n = k + 1 := ⟨n - 1, by omega⟩
  refine call_wp V.t52 rfl ?_
  simp [MB.b52_World_gone]
  rw [s_for]
  simp [srcOf]
  refine for_wp (ws := x.map fun c => W.str [c]) (fun i e m' => GoneInv o s x p m i e m') (by simp [Src.len, Bs.len]) ⟨[s], s, [], none, by simpa using Run.nil, rfl, rfl⟩ (fun i e m' I => sees_st) (fun i w e m' hw2 I => ?_) (fun e m' I => ?_)
  · obtain ⟨l, a, z, b, hr, rfl, rfl⟩ := I.ex
    have hi : i < x.length := by have := (List.getElem?_eq_some_iff.mp hw2).1; simpa using this
    obtain ⟨d, hd, rfl⟩ : ∃ d, x[i]? = some d ∧ w = .str [d] := by
      rw [List.getElem?_map, Option.map_eq_some_iff] at hw2
      obtain ⟨d, h1, h2⟩ := hw2
      exact ⟨d, h1, h2.symm⟩
    have hM0 : (m ++ Ob.lst (l.map stW) :: z)[m.length]? = some (.lst (l.map stW)) := app_new
    have hlen : (l.map stW).length = i + 1 := by rw [List.length_map, hr.len, List.length_take]; omega
    have hlast : (l.map stW)[i]? = some (stW a) := by
      rw [List.getElem?_map]
      have := hr.last
      rw [List.length_take, Nat.min_eq_left (by omega)] at this
      rw [this] <;> rfl
    have hwk := hw.keep (Ext.keep (m' := m ++ Ob.lst (l.map stW) :: z) ⟨_, rfl⟩)
    unfold forB
    simp [asgT, rcvOk, isLstO, hM0, negW, w_meth, hwk.at_, V.c, V.m13]
    rw [r_idxL hM0, getI_last hlen, hlast]
    simp only [optP_some]
    refine sp_behind K U V (by omega) O hwk (hr.ok O hs) (hx d (List.mem_of_getElem? hd)) fun s' m2 hst hE => ?_
    obtain ⟨z2, rfl⟩ := hE
    have hM1 : (m ++ Ob.lst (l.map stW) :: z ++ z2)[m.length]? = some (.lst (l.map stW)) := app_at hM0
    simp only [bmW, hM1]
    rw [if_pos (by rw [hlen]; simp only [SL]; omega)]
    simp only [Rwp_ok]
    refine ⟨l ++ [s'], s', z ++ z2, some (.str [d]), ?_, ?_, rfl⟩
    · have e1 : x.take (i + 1) = x.take i ++ [d] := by rw [List.take_add_one, hd] <;> rfl
      rw [e1]
      exact .snoc hr hst
    · rw [List.append_assoc, List.set_append_right _ _ (Nat.le_refl _)]
      simp
  · obtain ⟨l, a, z, b, hr, rfl, rfl⟩ := I.ex
    simp at hr
    simp
    exact hq l a z hr
theorem sp_walk (K : FlOk T C) (U : TuOk T) (V : WoOk T D) (hn : 10 ≤ n) {p f pg : Nat} {o : Wo} {bk : List (W × W)} {goals opening : W} {s0 : St} (O : o.Ok bk) (hw : WdAt m p f pg o bk goals opening s0) (hs : okSt o s0) {x : Tx} (hx : ∀ c ∈ x, c ∈ urdl) (hz : x.length ≤ 1000000)
    (hq : ∀ l a q m', Run o s0 x l a → Ext m m' → m'[q]? = some (.lst (l.map stW)) → Q (.obj q) m') : Rwp (callN T n 49 [.obj p, .str x] m) Q := by
  obtain ⟨n, rfl⟩ : ∃ k, n = k + 1 := ⟨n - 1, by omega⟩
  refine call_wp V.t49 rfl ?_
  simp [MB.b49_World_walk]
  refine sp_wantrow U (by omega) hx hz ?_
  simp [w_meth, w_fld, hw.at_, V.c, V.m12]
  show Rwp (callN T n 52 [.obj p, stW s0, .str x] m) _
  exact sp_gone K U V (by omega) O hw hs hx hz fun l a z hr => hq l a _ _ hr ⟨_, rfl⟩ app_new
theorem cell_sign {Ts : List Tx} {h w : Nat} (F : Fl Ts h w) {r c : Int} : cell Ts h w r c ∈ signsX := by
  by_cases i : Ins h w r c
  · obtain ⟨t, _, _, _, t4⟩ := cell_at F i
    exact t4
  · rw [cell_out i]; decide
/-! ### comings -/
/-- what a step tells -/
def comAt (o : Wo) (i : Nat) : St → St → Option W
  | some ((r, c), _), some ((r', c'), _) => if ¬ (r' = r ∧ c' = c) ∧ cell o.Ts o.h o.w r' c' ∈ lettersX then some (.tup [.int i, .str [cell o.Ts o.h o.w r' c']]) else none
  | _, _ => none
def comL (o : Wo) (l : List St) (k : Nat) : List W := (List.range k).filterMap fun i => match l[i]?, l[i + 1]? with
  | some a, some b => comAt o (i + 1) a b
  | _, _ => none
structure ComInv (o : Wo) (x : Tx) (p q : Nat) (l : List St) (m0 m : Mem) (i : Nat) (e : Env) (m' : Mem) : Prop where
  ex : ∃ z b5 b6 b7, m' = m ++ .lst (comL o l i) :: z ∧ e = [some (.obj p), some (.str x), some (.obj q), some (.obj m.length), b5, b6, b7]
theorem comL_len (o : Wo) (l : List St) (k : Nat) : (comL o l k).length ≤ k := by
  have := List.length_filterMap_le (fun i => match l[i]?, l[i + 1]? with | some a, some b => comAt o (i + 1) a b | _, _ => none) (List.range k)
  simpa [comL] using this
theorem comL_succ (o : Wo) (l : List St) {k : Nat} {a b : St} (h1 : l[k]? = some a) (h2 : l[k + 1]? = some b) : comL o l (k + 1) = comL o l k ++ (comAt o (k + 1) a b).toList := by
  unfold comL
  rw [List.range_succ, List.filterMap_append, List.filterMap_cons, List.filterMap_nil]
  simp only [h1, h2]
  cases comAt o (k + 1) a b <;> rfl
theorem sp_comings (K : FlOk T C) (U : TuOk T) (V : WoOk T D) (hn : 11 ≤ n) {p f pg : Nat} {o : Wo} {bk : List (W × W)} {goals opening : W} {s0 : St} (O : o.Ok bk) (hw : WdAt m p f pg o bk goals opening s0) (hs : okSt o s0) {x : Tx} (hx : ∀ c ∈ x, c ∈ urdl) (hz : x.length ≤ 100000)
    (hq : ∀ l a q m', Run o s0 x l a → Ext m m' → m'[q]? = some (.lst (comL o l x.length)) → Q (.obj q) m') : Rwp (callN T n 50 [.obj p, .str x] m) Q := by
  obtain ⟨n, rfl⟩ : ∃ k, n = k + 1 := ⟨n - 1, by omega⟩
  refine call_wp V.t50 rfl ?_
  simp [MB.b50_World_comings, w_meth, hw.at_, V.c, V.m9]
  refine sp_walk K U V (by omega) O hw hs hx (by omega) fun l a q m1 hr hE hl => ?_
  rw [s_for]
  have hlen := hr.len
  have hl0 : (m1 ++ [Ob.lst []])[q]? = some (.lst (l.map stW)) := app_at hl
  simp [r_lenL hl0]
  rw [rng2 (k := x.length) (by rw [hlen]; omega) (by omega) (by omega)]
  simp only [optP_some]
  refine for_wp (ws := (List.range x.length).map fun (i : Nat) => W.int (1 + i)) (fun i e m' => ComInv o x p q l m m1 i e m') (by simp [Src.len, Bs.len]) ⟨[], none, none, none, rfl, rfl⟩ (fun i e m' I => sees_st) (fun i w e m' hw2 I => ?_) (fun e m' I => ?_)
  · obtain ⟨z, b5, b6, b7, rfl, rfl⟩ := I.ex
    have hi : i < x.length := by have := (List.getElem?_eq_some_iff.mp hw2).1; simpa using this
    have ew : w = .int (1 + i) := by
      rw [List.getElem?_map, Option.map_eq_some_iff] at hw2
      obtain ⟨j, h1, h2⟩ := hw2
      rw [List.getElem?_range hi] at h1
      cases h1
      exact h2.symm
    subst ew
    have hls : ∃ s1 s2, l[i]? = some s1 ∧ l[i + 1]? = some s2 := ⟨l[i]'(by omega), l[i + 1]'(by omega), List.getElem?_eq_getElem _, List.getElem?_eq_getElem _⟩
    obtain ⟨s1, s2, e1, e2⟩ := hls
    have hcs := comL_succ o l e1 e2
    have hcl := comL_len o l i
    have hlq : (m1 ++ Ob.lst (comL o l i) :: z)[q]? = some (.lst (l.map stW)) := app_at hl
    have hfq : (m1 ++ Ob.lst (comL o l i) :: z)[m1.length]? = some (.lst (comL o l i)) := app_new
    have hwk := (hw.keep hE.keep).keep (Ext.keep (m' := m1 ++ Ob.lst (comL o l i) :: z) ⟨_, rfl⟩)
    obtain ⟨cc, _, hst⟩ := hr.step e1 e2
    have hfl := hwk.fl
    have hfl' := hfl
    unfold FlAt at hfl'
    have hset : ∀ o2, (m1 ++ Ob.lst (comL o l i) :: z).set m1.length o2 = m1 ++ o2 :: z := fun o2 => by
      rw [List.set_append_right _ _ (Nat.le_refl _)]
      simp
    have g1 : getI (l.map stW) (1 + (i : Int) - 1) = some (stW s1) := by
      rw [getI_nat (by omega), show (1 + (i : Int) - 1).toNat = i by omega, List.getElem?_map, e1] <;> rfl
    have g2 : getI (l.map stW) (1 + (i : Int)) = some (stW s2) := by
      rw [getI_nat (by omega), show (1 + (i : Int)).toNat = i + 1 by omega, List.getElem?_map, e2] <;> rfl
    have fin : ∀ z', ComInv o x p q l m m1 (i + 1) [some (.obj p), some (.str x), some (.obj q), some (.obj m1.length), some (.int (1 + i)), some (stW s1), some (stW s2)] (m1 ++ .lst (comL o l (i + 1)) :: z') := fun z' => ⟨z', _, _, _, rfl, rfl⟩
    unfold forB
    simp [asgT]
    rw [r_idxL hlq, g1]
    simp only [optP_some]
    rw [r_idxL hlq, g2]
    simp only [optP_some]
    cases s2 with
    | none =>
      have ec : comAt o (i + 1) s1 none = none := by cases s1 <;> rfl
      rw [ec] at hcs
      simp [stW, isNon, cmpop]
      have := fin z
      rw [hcs] at this
      simpa [stW] using this
    | some s2 =>
      obtain ⟨⟨r', c'⟩, t'⟩ := s2
      cases s1 with
      | none => cases hst
      | some s1 =>
        obtain ⟨⟨r, c⟩, t⟩ := s1
        simp [stW, isNon, cmpop, idxW, dctAt, idxS, seqW, getI_nat, Rwp_ofO, eqW_tup2]
        by_cases hsame : r' = r ∧ c' = c
        · have ec : comAt o (i + 1) (some ((r, c), t)) (some ((r', c'), t')) = none := by
            simp [comAt, hsame]
          rw [ec] at hcs
          rw [if_pos hsame, if_pos hsame]
          have := fin z
          rw [hcs] at this
          simpa [stW] using this
        · rw [if_neg hsame]
          have hsg := cell_sign O.fl (r := r') (c := c')
          simp [w_meth, w_fld, hwk.at_, hfl', K.c, K.m2, idxW, dctAt, idxS, seqW, getI_nat, Rwp_ofO]
          refine sp_seen K (by omega) O.fl hfl ?_
          simp [V.g9, inW, sub_letter hsg]
          by_cases hlt : cell o.Ts o.h o.w r' c' ∈ lettersX
          · have ec : comAt o (i + 1) (some ((r, c), t)) (some ((r', c'), t')) = some (.tup [.int (1 + i), .str [cell o.Ts o.h o.w r' c']]) := by
              simp [comAt, hsame, hlt]
              omega
            rw [ec] at hcs
            simp [hlt, rcvOk, isLstO, hfq, w_meth, w_fld, hwk.at_, hfl', K.c, K.m2, idxW, dctAt, idxS, seqW, getI_nat, Rwp_ofO]
            refine sp_seen K (by omega) O.fl hfl ?_
            simp only [bmW, hfq]
            rw [if_pos (by simp only [SL]; omega)]
            simp only [Rwp_ok, hset]
            have := fin z
            rw [hcs] at this
            simpa [stW] using this
          · have ec : comAt o (i + 1) (some ((r, c), t)) (some ((r', c'), t')) = none := by
              simp [comAt, hlt]
            rw [ec] at hcs
            simp [hlt]
            have := fin z
            rw [hcs] at this
            simpa [stW] using this
  · obtain ⟨z, b5, b6, b7, rfl, rfl⟩ := I.ex
    simp at *
    exact hq l a _ _ hr (hE.trans ⟨_, rfl⟩) app_new
end Sp
end

section
set_option Elab.async false
set_option linter.all false
set_option maxRecDepth 100000
set_option maxHeartbeats 4000000
/-! Wp4: a world is made. -/
namespace Sp
open Mi
variable {T : Tab} {C D : Cl} {m : Mem} {Q : W → Mem → Prop} {n : Nat}
theorem asBls_bl (bs : List Bool) : asBls (bs.map W.bl) = some bs := by
  unfold asBls
  induction bs with
  | nil => rfl
  | cons b bs ih => simp only [List.map_cons, optL, ih]
theorem r_any {k : Nat} {bs : List Bool} (h : m[k]? = some (.lst (bs.map W.bl))) : Rwp (bltW .any [.obj k] m) Q = Q (.bl (bs.any id)) m := by
  simp only [bltW, isLst, h, asBls_bl, Option.map_some, Rwp_some]
def onStr (g : Tx → Option W) : W → Option W
  | .str t => g t
  | _ => none
def onCh (g : Char → Option W) : W → Option W
  | .str [c] => g c
  | _ => none
theorem fm_onStr (g : Tx → Option W) (Ts : List Tx) : (Ts.map W.str).filterMap (onStr g) = Ts.filterMap g := by rw [List.filterMap_map] <;> rfl
theorem fm_onCh (g : Char → Option W) (x : Tx) : (x.map fun c => W.str [c]).filterMap (onCh g) = x.filterMap g := by rw [List.filterMap_map] <;> rfl
theorem fm_if {A D : Type} (p : A → Bool) (f : A → D) : ∀ l : List A, l.filterMap (fun a => if p a = true then some (f a) else none) = (l.filter p).map f
  | [] => rfl
  | a :: l => by
    rw [List.filterMap_cons, List.filter_cons, fm_if p f l]
    cases p a <;> simp
theorem fm_map {A D : Type} (f : A → D) : ∀ l : List A, l.filterMap (fun a => some (f a)) = l.map f
  | [] => rfl
  | a :: l => by rw [List.filterMap_cons, fm_map f l] <;> rfl
/-- the letters of a floor's plates -/
def lettersOf (Ts : List Tx) : Tx := lettersX.filter fun l => Ts.any fun t => subT [l] t
structure WmOk (T : Tab) (C D : Cl) : Prop where
  t51 : T.fn 51 = some MB.b51_Floor_letters
  t38 : T.fn 38 = some MB.b38_is_book
  t36 : T.fn 36 = some MB.b36_are_wishes
  t39 : T.fn 39 = some MB.b39_first_wrong
  t40 : T.fn 40 = some MB.b40_World__init
  t34 : T.fn 34 = some MB.b34_Floor_open_places
  t35 : T.fn 35 = some MB.b35_Floor_places
  m7 : C.meths.lookup 7 = some 34
  m8 : C.meths.lookup 8 = some 35
  m10 : C.meths.lookup 10 = some 51
theorem sp_letters (K : FlOk T C) (V : WoOk T D) (M : WmOk T C D) (hn : 1 ≤ n) {f h w : Nat} {Ts : List Tx} (F : Fl Ts h w) (ha : FlAt m f Ts) (hq : ∀ m', Ext m m' → Q (.str (lettersOf Ts)) m') : Rwp (callN T n 51 [.obj f] m) Q := by
  obtain ⟨n, rfl⟩ : ∃ k, n = k + 1 := ⟨n - 1, by omega⟩
  refine call_wp M.t51 rfl ?_
  have hl := F.len
  have h1 := F.h1
  simp [MB.b51_Floor_letters, rcvOk, isStrW]
  rw [w_lc]
  simp [V.g9, srcOf]
  refine lc_pure (ws := lettersX.map fun c => W.str [c]) (onCh fun l => if (Ts.any fun t => subT [l] t) = true then some (.str [l]) else none) (by simp [Src.len, Bs.len]) (by simp [SL, lettersX]) (fun acc z => sees_st) (fun i x acc z P hx hP => ?_) (fun z => ?_)
  · obtain ⟨d, hd, rfl⟩ := List.mem_map.mp (List.mem_of_getElem? hx)
    have ha2 : FlAt (m ++ Ob.lst acc :: z) f Ts := app_at ha
    have hM : ∀ z', P (if (Ts.any fun t => subT [d] t) = true then some (.str [d]) else none) (m ++ Ob.lst acc :: z ++ z') := fun z' => by
      have := hP (z ++ z')
      rw [List.append_assoc]
      exact this
    generalize m ++ Ob.lst acc :: z = M2 at ha2 hM ⊢
    have ha3 := ha2
    unfold FlAt at ha3
    unfold lcB1
    simp [asgT, wipeE]
    rw [w_lc]
    simp [w_fld, ha3, srcOf]
    refine lc_pure (ws := Ts.map W.str) (onStr fun t => some (.bl (subT [d] t))) (by simp [Src.len, Bs.len]) (by simp [SL]; omega) (fun acc z => sees_st) (fun i x acc z P hx hP => ?_) (fun z => ?_)
    · obtain ⟨t, ht, rfl⟩ := List.mem_map.mp (List.mem_of_getElem? hx)
      unfold lcB1
      simp [asgT, wipeE, cmpop, inW, Rwp_ofO]
      exact hP z
    · have e : (Ts.map W.str).filterMap (onStr fun t => some (.bl (subT [d] t))) = (Ts.map fun t => subT [d] t).map W.bl := by
        rw [fm_onStr, fm_map, List.map_map] <;> rfl
      rw [e, r_any app_new]
      have e2 : ((Ts.map fun t => subT [d] t).any id) = Ts.any fun t => subT [d] t := by rw [List.any_map] <;> rfl
      rw [e2]
      have := hM (Ob.lst ((Ts.map fun t => subT [d] t).map W.bl) :: z)
      cases q : (Ts.any fun t => subT [d] t) with
      | true => simp [q] at this ⊢; exact this
      | false => simp [q] at this ⊢; exact this
  · have e : (lettersX.map fun c => W.str [c]).filterMap (onCh fun l => if (Ts.any fun t => subT [l] t) = true then some (.str [l]) else none) = (lettersOf Ts).map fun c => W.str [c] := by
      rw [fm_onCh, fm_if] <;> rfl
    rw [e, r_joinO app_new (by
      have := List.length_filter_le (fun l => Ts.any fun t => subT [l] t) lettersX
      have h4 : lettersX.length = 4 := rfl
      have h5 : (lettersOf Ts).length ≤ lettersX.length := this
      simp only [SL]
      omega)]
    exact hq _ ⟨_, rfl⟩
theorem letters_le (Ts : List Tx) : (lettersOf Ts).length ≤ 4 := List.length_filter_le (fun l => Ts.any fun t => subT [l] t) lettersX
theorem letters_in {Ts : List Tx} {l : Char} (h : l ∈ lettersOf Ts) : l ∈ lettersX := (List.mem_filter.mp h).1
/-- in, where it stands -/
theorem inL_mem {w : W} {us : List W} (h : w ∈ us) (hd : (optL (toD m DD) us).isSome = true) : inL m w us = some true := by
  obtain ⟨es, he⟩ := Option.isSome_iff_exists.mp hd
  have hw : ∃ d, toD m DD w = some d ∧ d ∈ es := by
    clear hd
    induction us generalizing es with
    | nil => cases h
    | cons a us ih =>
      simp only [optL] at he
      split at he
      · rename_i b s e1 e2
        cases he
        rcases List.mem_cons.mp h with rfl | h
        · exact ⟨b, e1, List.mem_cons_self⟩
        · obtain ⟨d, q1, q2⟩ := ih h s e2
          exact ⟨d, q1, List.mem_cons_of_mem _ q2⟩
      · cases he
  obtain ⟨d, q1, q2⟩ := hw
  simp only [inL, q1, he]
  congr 1
  exact List.any_eq_true.mpr ⟨d, q2, toD_refl _ _ _ q1⟩
theorem sp_isbook (K : FlOk T C) (U : TuOk T) (V : WoOk T D) (M : WmOk T C D) (hn : 2 ≤ n) {f h w pg : Nat} {Ts : List Tx} {bk : List (W × W)} {β : Char → Tx} (F : Fl Ts h w) (ha : FlAt m f Ts) (hp : m[pg]? = some (.dct bk)) (hl : bk.length = (lettersOf Ts).length) (hb : ∀ l ∈ lettersOf Ts, getK bk (.str [l]) = some (.str (β l)) ∧ β l ∈ turnsX)
    (hq : ∀ m', Ext m m' → Q (.bl true) m') : Rwp (callN T n 38 [.obj f, .obj pg] m) Q := by
  obtain ⟨n, rfl⟩ : ∃ k, n = k + 1 := ⟨n - 1, by omega⟩
  refine call_wp M.t38 rfl ?_
  have ha' := ha
  unfold FlAt at ha'
  simp [MB.b38_is_book, isNon, cmpop, w_meth, ha', K.c, M.m10]
  refine sp_letters K V M (by omega) F ha fun m1 hE => ?_
  have hp1 := hE.at hp
  have hk : kdW m1 .dict (.obj pg) = some true := by simp [kdW, hp1]
  have hd1 : dctAt m1 (.obj pg) = some bk := dctAt_dct hp1
  have hle := letters_le Ts
  have hlen1 : ∀ Q', Rwp (bltW .len [.obj pg] m1) Q' = Q' (.int bk.length) m1 := fun Q' => by
    simp only [bltW, lenW, hd1, Option.map_some, Rwp_some]
  simp [r_isi hk, hlen1]
  rw [r_lenX (by simp only [SL]; omega)]
  simp [eqW_int, hl, Rwp_ofO]
  rw [w_lc]
  simp [srcOf]
  refine lc_pure (ws := (lettersOf Ts).map fun c => W.str [c]) (fun _ => some (.bl true)) (by simp [Src.len, Bs.len]) (by simp only [SL, List.length_map]; omega) (fun acc z => sees_st) (fun i x acc z P hx hP => ?_) (fun z => ?_)
  · obtain ⟨d, hd, rfl⟩ := List.mem_map.mp (List.mem_of_getElem? hx)
    obtain ⟨b1, b2⟩ := hb d hd
    have hp2 : (m1 ++ Ob.lst acc :: z)[pg]? = some (.dct bk) := app_at hp1
    have hd2 : dctAt (m1 ++ Ob.lst acc :: z) (.obj pg) = some bk := dctAt_dct hp2
    unfold lcB1
    simp [asgT, wipeE, cmpop, inW, hd2, isKey, b1, Rwp_ofO]
    rw [r_idxD hp2 rfl, b1]
    simp
    refine sp_isturn U (by omega) b2 ?_
    exact hP z
  · rw [r_all app_new fun u hu => ?_]
    · exact hq _ (hE.trans ⟨_, rfl⟩)
    · obtain ⟨_, _, e⟩ := List.mem_filterMap.mp hu
      exact (Option.some.inj e).symm
theorem dedup_id : ∀ {l : List W}, (l.Pairwise fun x y => codeW x ≠ codeW y) → dedupW l = l
  | [], _ => rfl
  | a :: l, h => by
    obtain ⟨h1, h2⟩ := List.pairwise_cons.mp h
    unfold dedupW
    rw [dedup_id h2, if_neg]
    intro q
    obtain ⟨b, hb, e⟩ := List.any_eq_true.mp q
    exact h1 b hb (eq_of_beq e).symm
/-- wishes of a floor -/
structure GoalOk (h w : Nat) (gs : List W) : Prop where
  pl : ∀ v ∈ gs, ∃ r c : Nat, v = .tup [.int r, .int c] ∧ r < h ∧ c < w
  nd : gs.Pairwise fun x y => codeW x ≠ codeW y
  len : gs.length < 64
theorem GoalOk.set {h w : Nat} {gs : List W} (g : GoalOk h w gs) (hh : h ≤ 1000) (hw : w ≤ 1000) : setOk gs = true := by
  unfold setOk
  rw [Bool.and_eq_true, decide_eq_true_eq, List.all_eq_true]
  refine ⟨g.len, fun v hv => ?_⟩
  obtain ⟨r, c, rfl, hr, hc⟩ := g.pl v hv
  simp [tupOk, tupI, intsW, optL, intW, SB]
  exact ⟨decide_eq_true (by omega), decide_eq_true (by omega)⟩
theorem sp_arewishes (K : FlOk T C) (M : WmOk T C D) (hn : 5 ≤ n) {f h w gl : Nat} {Ts : List Tx} {gs : List W} (F : Fl Ts h w) (ha : FlAt m f Ts) (hg : m[gl]? = some (.lst gs)) (G : GoalOk h w gs) (hq : ∀ m', Ext m m' → Q (.bl true) m') : Rwp (callN T n 36 [.obj f, .obj gl] m) Q := by
  obtain ⟨n, rfl⟩ : ∃ k, n = k + 1 := ⟨n - 1, by omega⟩
  refine call_wp M.t36 rfl ?_
  have e1 : isiW m (.obj gl) [.list, .tuple] = .ok (.bl true) m := by
    simp [isiW, optL, kdW, hg, ofO]
  have hgl := G.len
  simp [MB.b36_are_wishes, e1]
  rw [w_lc]
  simp [srcOf, hg]
  refine lc_pure (ws := gs) (fun _ => some (.bl true)) (by rw [len_lv hg]; omega) (by simp only [SL]; omega) (fun acc z => sees_lv (app_at hg)) (fun i x acc z P hx hP => ?_) (fun z => ?_)
  · obtain ⟨r, c, rfl, hr, hc⟩ := G.pl x (List.mem_of_getElem? hx)
    have ha2 : FlAt (m ++ Ob.lst acc :: z) f Ts := app_at ha
    have hP2 := hP z
    generalize m ++ Ob.lst acc :: z = M2 at ha2 hP2 ⊢
    have ha3 := ha2
    unfold FlAt at ha3
    unfold lcB1
    simp [asgT, wipeE, w_meth, ha3, K.c, K.m3]
    refine sp_has K (by omega) F ha2 ?_
    have hi : Ins h w (r : Int) (c : Int) := ⟨by omega, by omega⟩
    simp [hi]
    exact hP2
  · have hu : ∀ u ∈ gs.filterMap (fun _ => some (W.bl true)), u = .bl true := fun u hu => by
      obtain ⟨_, _, e⟩ := List.mem_filterMap.mp hu
      exact (Option.some.inj e).symm
    generalize gs.filterMap (fun _ => some (W.bl true)) = L at hu ⊢
    have hg2 : (m ++ Ob.lst L :: z)[gl]? = some (.lst gs) := app_at hg
    rw [r_all app_new hu]
    simp [lsetW, seqW, hg2, G.set F.h1 F.w1, dedup_id G.nd, r_lenL hg2, cmpop, eqW_int, Rwp_ofO]
    exact hq _ ⟨_, rfl⟩
end Sp
end

section
set_option Elab.async false
set_option linter.all false
set_option maxRecDepth 100000
set_option maxHeartbeats 4000000
/-! Wp5: a world is made. -/
namespace Sp
open Mi
variable {T : Tab} {C D : Cl} {m : Mem} {Q : W → Mem → Prop} {n : Nat}
theorem sub_one {c : Char} {t : Tx} : subT [c] t = decide (c ∈ t) := by
  have h : subT [c] t = !(PySem.Builtin.Str.occurrences (sx t) ⟨#[c.toNat]⟩ 0 (sx t).length 1).isEmpty := rfl
  rw [h, PySem.StrLaws.found_one, decide_eq_decide]
  simp only [sx, List.mem_map]
  constructor
  · rintro ⟨d, hd, e⟩
    rw [← Char.ext (UInt32.toNat_inj.mp e)]
    exact hd
  · exact fun h => ⟨c, h, rfl⟩
/-! ### books -/
def bookW (l : Tx) (β : Char → Tx) : List (W × W) := l.map fun c => (.str [c], .str (β c))
theorem keyEq_c {a c : Char} : keyEq (.str [a]) (.str [c]) = decide (a = c) := by simp [keyEq]
theorem book_get {β : Char → Tx} : ∀ {l : Tx} {c : Char}, c ∈ l → getK (bookW l β) (.str [c]) = some (.str (β c))
  | a :: l, c, h => by
    have ih := fun h => book_get (β := β) (l := l) (c := c) h
    unfold getK bookW at ih ⊢
    rw [List.map_cons, List.find?_cons, keyEq_c]
    by_cases e : a = c
    · subst e; simp
    · rw [decide_eq_false e]
      exact ih (by rcases List.mem_cons.mp h with h | h; exact absurd h.symm e; exact h)
theorem merge_nodup {β : Char → Tx} : ∀ {l : Tx} {acc : List (W × W)}, l.Nodup → (∀ c ∈ l, acc.any (fun kv => keyEq kv.1 (.str [c])) = false) → mergeW acc (bookW l β) = acc ++ bookW l β
  | [], acc, _, _ => by simp [mergeW, bookW]
  | a :: l, acc, h, hd => by
    obtain ⟨h1, h2⟩ := List.nodup_cons.mp h
    have e1 : putW acc (.str [a]) (.str (β a)) = acc ++ [(.str [a], .str (β a))] := by
      unfold putW
      rw [if_neg (by rw [hd a List.mem_cons_self]; simp)]
    have ih := merge_nodup (β := β) (l := l) (acc := acc ++ [(.str [a], .str (β a))]) h2 fun c hc => by
      rw [List.any_append, hd c (List.mem_cons_of_mem _ hc)]
      simp only [List.any_cons, List.any_nil, keyEq_c, Bool.false_or, Bool.or_false, decide_eq_false_iff_not]
      rintro rfl
      exact h1 hc
    show mergeW (putW acc (.str [a]) (.str (β a))) (bookW l β) = _
    rw [e1, ih]
    simp [bookW]
theorem put_book {β : Char → Tx} {t : Tx} : ∀ {l : Tx} {c : Char}, c ∈ l → putW (bookW l β) (.str [c]) (.str t) = bookW l (fun d => if d = c then t else β d) := by
  intro l c h
  have h1 : (bookW l β).any (fun kv => keyEq kv.1 (.str [c])) = true := List.any_eq_true.mpr ⟨_, List.mem_map.mpr ⟨c, h, rfl⟩, by rw [keyEq_c]; simp⟩
  unfold putW
  rw [if_pos h1]
  unfold bookW
  rw [List.map_map]
  refine List.map_congr_left fun d _ => ?_
  simp only [Function.comp, keyEq_c, decide_eq_true_eq]
  by_cases e : d = c
  · rw [if_pos e, if_pos e]
  · rw [if_neg e, if_neg e]
theorem letters_nodup (Ts : List Tx) : (lettersOf Ts).Nodup := List.Pairwise.filter _ (by decide)
theorem letter_of {Ts : List Tx} {h w : Nat} (F : Fl Ts h w) {l : Char} (hl : l ∈ lettersX) {r c : Int} (e : cell Ts h w r c = l) : l ∈ lettersOf Ts := by
  refine List.mem_filter.mpr ⟨hl, List.any_eq_true.mpr ?_⟩
  have hne : cell Ts h w r c ≠ '#' := by rw [e]; rintro rfl; revert hl; decide
  obtain ⟨t, t1, _, t3, _⟩ := cell_at F (cell_in hne)
  refine ⟨t, List.mem_of_getElem? t1, ?_⟩
  rw [sub_one, decide_eq_true_eq, ← e]
  exact List.mem_of_getElem? t3
theorem book_ok {o : Wo} (F : Fl o.Ts o.h o.w) (ht : ∀ l ∈ lettersOf o.Ts, o.β l ∈ turnsX) : o.Ok (bookW (lettersOf o.Ts) o.β) :=
  ⟨F, fun l hl ⟨_, _, e⟩ => book_get (letter_of F hl e), fun l hl ⟨_, _, e⟩ => ht l (letter_of F hl e)⟩
/-! ### what is wrong: nothing -/
theorem toD_pair {r c : Int} : (toD m DD (.tup [.int r, .int c])).isSome = true := rfl
theorem open_dat {Ts : List Tx} {h w : Nat} : (optL (toD m DD) (openW Ts h w)).isSome = true := optL_isSome fun v hv => by
  obtain ⟨r, c, _, _, rfl⟩ := all_mem.mp (List.mem_filter.mp hv).1
  exact toD_pair
theorem sp_firstwrong (K : FlOk T C) (U : TuOk T) (V : WoOk T D) (M : WmOk T C D) (hn : 8 ≤ n) {f h w pg gl : Nat} {Ts : List Tx} {β : Char → Tx} {gs : List W} {r c : Int} {t : Tx} (F : Fl Ts h w) (ha : FlAt m f Ts) (hb : W.tup [.int r, .int c] ∈ openW Ts h w) (ht : t ∈ turnsX) (hp : m[pg]? = some (.dct (bookW (lettersOf Ts) β))) (hβ : ∀ l ∈ lettersOf Ts, β l ∈ turnsX) (hg : m[gl]? = some (.lst gs)) (G : GoalOk h w gs)
    (hq : ∀ m', Ext m m' → Q .non m') : Rwp (callN T n 39 [.obj f, .tup [.int r, .int c], .str t, .obj pg, .obj gl] m) Q := by
  obtain ⟨n, rfl⟩ : ∃ k, n = k + 1 := ⟨n - 1, by omega⟩
  refine call_wp M.t39 rfl ?_
  have ha' := ha
  unfold FlAt at ha'
  have hk : kdW m (.cls 0) (.obj f) = some true := by simp [kdW, ha']
  obtain ⟨r', c', hr, hc, e⟩ := all_mem.mp (List.mem_filter.mp hb).1
  simp only [W.tup.injEq, List.cons.injEq, W.int.injEq, and_true] at e
  obtain ⟨rfl, rfl⟩ := e
  have hi : Ins h w (r' : Int) (c' : Int) := ⟨by omega, by omega⟩
  simp [MB.b39_first_wrong, r_isi hk, w_meth, ha', K.c, K.m3, M.m7]
  refine sp_has K (by omega) F ha ?_
  simp [hi, w_meth, ha', K.c, K.m3, M.m7]
  refine sp_open K M.t35 M.t34 M.m8 (by omega) F ha fun q m1 hE hml hl => ?_
  have hin : inW m1 (.tup [.int r', .int c']) (.obj q) = some true := by
    simp only [inW, dctAt_lst hl, seqW_lst hl]
    exact inL_mem hb open_dat
  simp [cmpop, hin]
  refine sp_isturn U (by omega) ht ?_
  simp
  refine sp_isbook K U V M (by omega) F (hE.at ha) (hE.at hp) (by simp [bookW]) (fun l hl => ⟨book_get hl, hβ l hl⟩) fun m2 hE2 => ?_
  simp
  refine sp_arewishes K M (by omega) F (hE2.at (hE.at ha)) (hE2.at (hE.at hg)) G fun m3 hE3 => ?_
  simp
  exact hq m3 ((hE.trans hE2).trans hE3)
theorem GoalOk.srt {h w : Nat} {gs : List W} (g : GoalOk h w gs) (hh : h ≤ 1000) (hw : w ≤ 1000) : srtOk gs = true := by
  have := g.set hh hw
  unfold setOk at this
  unfold srtOk
  rw [this, Bool.or_true]
def wdF (f pg : Nat) (goals opening : W) (s0 : St) : List (Nat × W) := [(5, .obj f), (4, .obj pg), (3, goals), (2, opening), (1, stW s0)]
theorem sp_world (K : FlOk T C) (U : TuOk T) (V : WoOk T D) (M : WmOk T C D) (hn : 9 ≤ n) {f h w pg gl : Nat} {Ts : List Tx} {β : Char → Tx} {gs : List W} {r c : Int} {t : Tx} (F : Fl Ts h w) (ha : FlAt m f Ts) (hb : W.tup [.int r, .int c] ∈ openW Ts h w) (ht : t ∈ turnsX) (hp : m[pg]? = some (.dct (bookW (lettersOf Ts) β))) (hβ : ∀ l ∈ lettersOf Ts, β l ∈ turnsX) (hg : m[gl]? = some (.lst gs)) (G : GoalOk h w gs)
    (hq : ∀ z pg', m.length ≤ pg' → (m ++ .ins 1 (wdF f pg' (.tup (srtB codeW gs)) (.tup [.int r, .int c]) (some ((r, c), t))) :: z)[pg']? = some (.dct (bookW (lettersOf Ts) β)) → Q .non (m ++ .ins 1 (wdF f pg' (.tup (srtB codeW gs)) (.tup [.int r, .int c]) (some ((r, c), t))) :: z)) : Rwp (callN T n 40 [.obj m.length, .obj f, .tup [.int r, .int c], .str t, .obj pg, .obj gl] (m ++ [.ins 1 []])) Q := by
  obtain ⟨n, rfl⟩ : ∃ k, n = k + 1 := ⟨n - 1, by omega⟩
  refine call_wp M.t40 rfl ?_
  simp [MB.b40_World__init]
  refine sp_firstwrong K U V M (by omega) F (app_at ha) hb ht (app_at hp) hβ (app_at hg) G fun m1 hE => ?_
  obtain ⟨z, rfl⟩ := hE
  have e1 : m ++ [Ob.ins 1 []] ++ z = m ++ .ins 1 [] :: z := by simp
  rw [e1]
  have hset : ∀ z o o', (m ++ o :: z).set m.length o' = m ++ o' :: z := fun z o o' => by
    rw [List.set_append_right _ _ (Nat.le_refl _)]
    simp
  have hat : ∀ (o : Ob) (z : Mem), (m ++ o :: z)[m.length]? = some o := fun o z => app_new
  simp [isNon]
  rw [r_fldW (hat _ _) (by simp [putA])]
  simp only [optP_some, hset, putA]
  rw [w_dc]
  have ha1 : FlAt (m ++ .ins 1 [(5, .obj f)] :: z) f Ts := app_at ha
  have ha1' := ha1
  unfold FlAt at ha1'
  simp [w_meth, ha1', K.c, M.m10]
  refine sp_letters K V M (by omega) F ha1 fun m2 hE2 => ?_
  obtain ⟨zz, rfl⟩ : ∃ zz, m2 = m ++ .ins 1 [(5, .obj f)] :: zz := by
    obtain ⟨z2, rfl⟩ := hE2
    exact ⟨z ++ z2, by simp⟩
  have hle := letters_le Ts
  have hpM : (m ++ .ins 1 [(5, .obj f)] :: zz)[pg]? = some (.dct (bookW (lettersOf Ts) β)) := app_at hp
  have hgM : ∀ zz o, (m ++ o :: zz)[gl]? = some (.lst gs) := fun zz o => app_at hg
  have hsM : ∀ z3 o', (m ++ .ins 1 [(5, .obj f)] :: zz ++ z3).set m.length o' = m ++ o' :: (zz ++ z3) := fun z3 o' => by rw [List.append_assoc, List.cons_append, hset]
  have hat2 : (m ++ .ins 1 [(5, .obj f)] :: zz)[m.length]? = some (.ins 1 [(5, .obj f)]) := app_new
  have hlt := lt_of_at hat2
  have hnew : ∀ o o' z3, (m ++ o' :: (zz ++ o :: z3))[(m ++ .ins 1 [(5, .obj f)] :: zz).length]? = some o := fun o o' z3 => by
    rw [show m ++ o' :: (zz ++ o :: z3) = (m ++ o' :: zz) ++ o :: z3 by simp, show (m ++ Ob.ins 1 [(5, .obj f)] :: zz).length = (m ++ o' :: zz).length by simp]
    exact app_new
  generalize m ++ .ins 1 [(5, .obj f)] :: zz = M2 at hpM hsM hat2 hlt hnew ⊢
  simp [srcOf]
  refine dc_pure (ws := (lettersOf Ts).map fun c => W.str [c]) (fun v => match v with | .str [c] => some (.str [c], .str (β c)) | _ => none) (by simp [Src.len, Bs.len]) (by simp only [SL, List.length_map]; omega) (fun acc z => sees_st) (fun i x acc z P hx hP => ?_) (fun x p hx e => ?_) (fun z3 => ?_)
  · obtain ⟨d, hd, rfl⟩ := List.mem_map.mp (List.mem_of_getElem? hx)
    have hp2 : (M2 ++ Ob.dct acc :: z)[pg]? = some (.dct (bookW (lettersOf Ts) β)) := app_at hpM
    have hP2 := hP z
    generalize M2 ++ Ob.dct acc :: z = M3 at hp2 hP2 ⊢
    unfold dcB1
    simp [asgT, wipeE, isNon]
    rw [r_idxD hp2 rfl, book_get hd]
    simp
    exact hP2
  · obtain ⟨d, hd, rfl⟩ := List.mem_map.mp hx
    simp at e
    rw [← e]
    rfl
  · have e5 : ((lettersOf Ts).map fun c => W.str [c]).filterMap (fun v => match v with | .str [c] => some (W.str [c], W.str (β c)) | _ => none) = bookW (lettersOf Ts) β := by
      rw [List.filterMap_map]
      unfold bookW
      generalize lettersOf Ts = l
      clear hle
      induction l with
      | nil => rfl
      | cons a l ih => simpa using ih
    rw [e5, merge_nodup (letters_nodup Ts) (fun _ _ => rfl), List.nil_append]
    have hat3 : (M2 ++ .dct (bookW (lettersOf Ts) β) :: z3)[m.length]? = some (.ins 1 [(5, .obj f)]) := app_at hat2
    rw [r_fldW hat3 (by simp)]
    simp only [optP_some, hsM, putA]
    have hg3 := hgM (zz ++ .dct (bookW (lettersOf Ts) β) :: z3) (.ins 1 [(5, .obj f), (4, .obj M2.length)])
    simp [bltW, isLst, hg3, G.srt F.h1 F.w1, seqW]
    have hq2 := hq (zz ++ .dct (bookW (lettersOf Ts) β) :: z3 ++ [.lst (srtB codeW gs)]) M2.length
    have hn2 := hnew (.dct (bookW (lettersOf Ts) β)) (.ins 1 (wdF f M2.length (.tup (srtB codeW gs)) (.tup [.int r, .int c]) (some ((r, c), t)))) (z3 ++ [.lst (srtB codeW gs)])
    have e6 : m ++ Ob.ins 1 [(5, W.obj f), (4, W.obj M2.length)] :: (zz ++ Ob.dct (bookW (lettersOf Ts) β) :: (z3 ++ [Ob.lst (srtB codeW gs)])) = m ++ Ob.ins 1 [(5, W.obj f), (4, W.obj M2.length)] :: (zz ++ Ob.dct (bookW (lettersOf Ts) β) :: z3 ++ [Ob.lst (srtB codeW gs)]) := by simp
    rw [e6]
    rw [show zz ++ Ob.dct (bookW (lettersOf Ts) β) :: (z3 ++ [Ob.lst (srtB codeW gs)]) = zz ++ Ob.dct (bookW (lettersOf Ts) β) :: z3 ++ [Ob.lst (srtB codeW gs)] by simp] at hn2
    generalize zz ++ Ob.dct (bookW (lettersOf Ts) β) :: z3 ++ [Ob.lst (srtB codeW gs)] = Z at hq2 hn2 ⊢
    rw [r_fldW (hat _ _) (by simp [putA])]
    simp only [optP_some, hset, putA]
    rw [r_fldW (hat _ _) (by simp [putA])]
    simp only [optP_some, hset, putA]
    rw [r_fldW (hat _ _) (by simp [putA])]
    simp only [optP_some, hset, putA]
    exact hq2 (by omega) hn2
end Sp
end

section
set_option Elab.async false
set_option linter.all false
set_option maxRecDepth 100000
set_option maxHeartbeats 4000000
/-! Wp6: plain law: two books that differ at one letter. -/
namespace Sp
open Mi
theorem Run.zero {o : Wo} {s a : St} {x : Tx} {l : List St} (h : Run o s x l a) : l[0]? = some s := by
  induction h with
  | nil => rfl
  | snoc h _ ih =>
    have := h.len
    rw [List.getElem?_append_left (by omega)]
    exact ih
theorem Run.stepAt {o : Wo} {s a : St} {x : Tx} {l : List St} (h : Run o s x l a) : ∀ {i : Nat} {p q : St}, l[i]? = some p → l[i + 1]? = some q → ∃ c, x[i]? = some c ∧ Step o p c q := by
  induction h with
  | nil =>
    intro i p q h1 h2
    simp at h2
  | @snoc x l a b c h st ih =>
    intro i p q h1 h2
    have hl := h.len
    have hb := (List.getElem?_eq_some_iff.mp h2).1
    simp at hb
    by_cases hi : i + 1 < l.length
    · rw [List.getElem?_append_left hi] at h2
      rw [List.getElem?_append_left (by omega)] at h1
      obtain ⟨c', hc, q'⟩ := ih h1 h2
      exact ⟨c', by rw [List.getElem?_append_left (by omega)]; exact hc, q'⟩
    · have hi' : i = x.length := by omega
      subst hi'
      rw [List.getElem?_append_left (by omega)] at h1
      rw [h.last] at h1
      cases h1
      rw [List.getElem?_append_right (by omega)] at h2
      simp [hl] at h2
      subst h2
      exact ⟨c, by simp, st⟩
theorem Run.okAll {o : Wo} {bk : List (W × W)} (O : o.Ok bk) {s a : St} {x : Tx} {l : List St} (h : Run o s x l a) (hs : okSt o s) : ∀ v ∈ l, okSt o v := by
  induction h with
  | nil => intro v hv; simp at hv; subst hv; exact hs
  | snoc h st ih =>
    intro v hv
    rcases List.mem_append.mp hv with hv | hv
    · exact ih v hv
    · rw [List.mem_singleton.mp hv]
      exact st.ok O (h.ok O hs)
def posO (s : St) : Option (Int × Int) := s.map Prod.fst
theorem comAt_pos {o o' : Wo} {i : Nat} {a a' b b' : St} (e1 : o.Ts = o'.Ts) (e2 : o.h = o'.h) (e3 : o.w = o'.w) (ha : posO a = posO a') (hb : posO b = posO b') : comAt o i a b = comAt o' i a' b' := by
  cases a with
  | none => cases a' with
    | none => rfl
    | some _ => cases ha
  | some a => cases a' with
    | none => cases ha
    | some a' => cases b with
      | none => cases b' with
        | none => rfl
        | some _ => cases hb
      | some b => cases b' with
        | none => cases hb
        | some b' =>
          obtain ⟨⟨r, c⟩, t⟩ := a
          obtain ⟨⟨r1, c1⟩, t1⟩ := a'
          obtain ⟨⟨r2, c2⟩, t2⟩ := b
          obtain ⟨⟨r3, c3⟩, t3⟩ := b'
          simp only [posO, Option.map_some, Option.some.injEq, Prod.mk.injEq] at ha hb
          obtain ⟨rfl, rfl⟩ := ha
          obtain ⟨rfl, rfl⟩ := hb
          simp only [comAt, e1, e2, e3]
/-- two worlds but for one letter's turn -/
structure Twin (o o' : Wo) (z : Char) : Prop where
  ts : o.Ts = o'.Ts
  h : o.h = o'.h
  w : o.w = o'.w
  β : ∀ d, d ≠ z → o.β d = o'.β d
theorem Twin.goes {o o' : Wo} {z : Char} (U : Twin o o' z) {r c : Int} {x : Char} {p : Option (Int × Int)} (g : Goes o r c x p) : Goes o' r c x p := by
  obtain ⟨h1, h2, h3⟩ := g
  rw [U.ts, U.h, U.w] at h2 h3
  exact ⟨h1, h2, h3⟩
/-- a coming to a letter -/
def isCom (o : Wo) (z : Char) (a b : St) : Prop := comAt o 0 a b = some (.tup [.int 0, .str [z]])
theorem comAt_ix {o : Wo} {i : Nat} {a b : St} {w : W} : comAt o i a b = some w ↔ ∃ z, isCom o z a b ∧ w = .tup [.int i, .str [z]] := by
  unfold isCom
  cases a with
  | none => simp [comAt]
  | some a => cases b with
    | none => simp [comAt]
    | some b =>
      obtain ⟨⟨r, c⟩, t⟩ := a
      obtain ⟨⟨r2, c2⟩, t2⟩ := b
      unfold comAt
      dsimp only
      split
      · simp only [Option.some.injEq, W.tup.injEq, List.cons.injEq, W.int.injEq, W.str.injEq, and_true, true_and]
        constructor
        · rintro rfl; exact ⟨_, ⟨rfl, rfl⟩, rfl⟩
        · rintro ⟨z, ⟨_, e⟩, rfl⟩; rw [e]
      · simp
theorem com_step {o : Wo} {bk : List (W × W)} (O : o.Ok bk) {z : Char} {a b : St} {x : Char} (h : Step o a x b) (g : isCom o z a b) : ∃ r c r' c' t, a = some ((r, c), t) ∧ b = some ((r', c'), t.map (tw (o.β z))) ∧ Goes o r c (tw t x) (some (r', c')) ∧ ¬ (r' = r ∧ c' = c) ∧ cell o.Ts o.h o.w r' c' = z ∧ z ∈ lettersX := by
  unfold isCom at g
  cases h with
  | lost => cases g
  | pit _ => cases g
  | stay _ => simp [comAt] at g
  | @go r c r' c' t x h1 h2 h3 =>
    exfalso
    by_cases hl : cell o.Ts o.h o.w r' c' ∈ lettersX
    · rw [sub_letter (cell_sign O.fl), decide_eq_true hl] at h3
      cases h3
    · simp [comAt, hl] at g
  | @turn r c r' c' t x h1 h2 h3 =>
    simp only [comAt, if_pos (show ¬ (r' = r ∧ c' = c) ∧ cell o.Ts o.h o.w r' c' ∈ lettersX from ⟨h2, h3⟩), Option.some.injEq, W.tup.injEq, List.cons.injEq, W.str.injEq, and_true] at g
    have e := g.2
    subst e
    exact ⟨_, _, _, _, _, rfl, rfl, h1, h2, rfl, h3⟩
theorem Twin.step {o o' : Wo} {z : Char} (U : Twin o o' z) {a b : St} {x : Char} (h : Step o a x b) (g : ¬ isCom o z a b) : Step o' a x b := by
  cases h with
  | lost => exact .lost
  | pit h1 => exact .pit (U.goes h1)
  | stay h1 => exact .stay (U.goes h1)
  | go h1 h2 h3 =>
    rw [U.ts, U.h, U.w] at h3
    exact .go (U.goes h1) h2 h3
  | @turn r c r' c' t x h1 h2 h3 =>
    have hz : cell o.Ts o.h o.w r' c' ≠ z := by
      rintro e
      refine g ?_
      unfold isCom
      simp only [comAt, if_pos (show ¬ (r' = r ∧ c' = c) ∧ cell o.Ts o.h o.w r' c' ∈ lettersX from ⟨h2, h3⟩)]
      rw [e]
      rfl
    rw [U.β _ hz]
    rw [U.ts, U.h, U.w] at h3 ⊢
    exact .turn (U.goes h1) h2 h3
/-- alike till one comes to the letter -/
theorem run_twin {o o' : Wo} {z : Char} {bk bk' : List (W × W)} (U : Twin o o' z) (O' : o'.Ok bk') {s a b : St} {x : Tx} {l l' : List St} (h : Run o s x l a) (h' : Run o' s x l' b) {k : Nat} (hk : k ≤ x.length) (hn : ∀ i, i < k → ∀ p q, l[i]? = some p → l[i + 1]? = some q → ¬ isCom o z p q) : ∀ i, i ≤ k → l[i]? = l'[i]? := by
  have l1 := h.len
  have l2 := h'.len
  intro i
  induction i with
  | zero => intro _; rw [h.zero, h'.zero]
  | succ i ih =>
    intro hi
    have e1 := ih (by omega)
    have a1 : l[i]? = some (l[i]'(by omega)) := List.getElem?_eq_getElem _
    have a2 : l[i + 1]? = some (l[i + 1]'(by omega)) := List.getElem?_eq_getElem _
    have b2 : l'[i + 1]? = some (l'[i + 1]'(by omega)) := List.getElem?_eq_getElem _
    generalize l[i]'(by omega) = p at a1
    generalize l[i + 1]'(by omega) = q at a2
    generalize l'[i + 1]'(by omega) = q' at b2
    obtain ⟨c, hc, st⟩ := h.stepAt a1 a2
    obtain ⟨c', hc', st'⟩ := h'.stepAt (e1 ▸ a1) b2
    rw [hc] at hc'
    cases hc'
    have := (U.step st (hn i (by omega) _ _ a1 a2)).uniq O' st'
    rw [a2, b2, this]
theorem run_same {o o' : Wo} {z : Char} {bk bk' : List (W × W)} (U : Twin o o' z) (O' : o'.Ok bk') {s a b : St} {x : Tx} {l l' : List St} (h : Run o s x l a) (h' : Run o' s x l' b) (hn : ∀ i, i < x.length → ∀ p q, l[i]? = some p → l[i + 1]? = some q → ¬ isCom o z p q) : l = l' := by
  have l1 := h.len
  have l2 := h'.len
  refine List.ext_getElem? fun i => ?_
  by_cases hi : i ≤ x.length
  · exact run_twin (bk := bk) U O' h h' (Nat.le_refl _) hn i hi
  · rw [List.getElem?_eq_none (by omega), List.getElem?_eq_none (by omega)]
theorem tw_inj {a b t : Tx} (ha : a ∈ turnsX) (hb : b ∈ turnsX) (ht : t ∈ turnsX) (e : t.map (tw a) = t.map (tw b)) : a = b := by
  have key : ∀ a ∈ turnsX, ∀ b ∈ turnsX, ∀ t ∈ turnsX, t.map (tw a) = t.map (tw b) → a = b := by decide +kernel
  exact key a ha b hb t ht e
/-- at the first coming to the letter: one place, unlike turns -/
theorem run_first {o o' : Wo} {z : Char} {bk bk' : List (W × W)} (U : Twin o o' z) (O : o.Ok bk) (O' : o'.Ok bk') {s a b : St} {x : Tx} {l l' : List St} (h : Run o s x l a) (h' : Run o' s x l' b) (hs : okSt o s) (hz : o.β z ≠ o'.β z) {k : Nat} {p q : St} (hp : l[k]? = some p) (hq : l[k + 1]? = some q) (hc : isCom o z p q) (hn : ∀ i, i < k → ∀ p q, l[i]? = some p → l[i + 1]? = some q → ¬ isCom o z p q) :
    (∀ i, i ≤ k → l[i]? = l'[i]?) ∧ ∃ r c t t', l[k + 1]? = some (some ((r, c), t)) ∧ l'[k + 1]? = some (some ((r, c), t')) ∧ t ≠ t' := by
  have l1 := h.len
  have l2 := h'.len
  have hb := (List.getElem?_eq_some_iff.mp hq).1
  have e1 := run_twin (bk := bk) U O' h h' (k := k) (by omega) hn
  refine ⟨e1, ?_⟩
  have b2 : l'[k + 1]? = some (l'[k + 1]'(by omega)) := List.getElem?_eq_getElem _
  generalize l'[k + 1]'(by omega) = q' at b2
  obtain ⟨c, hc1, st⟩ := h.stepAt hp hq
  obtain ⟨c', hc2, st'⟩ := h'.stepAt (e1 k (Nat.le_refl _) ▸ hp) b2
  rw [hc1] at hc2
  cases hc2
  have hok := h.okAll O hs p (List.mem_of_getElem? hp)
  obtain ⟨r, c0, r', c1, t, rfl, rfl, g1, g2, g3, g4⟩ := com_step O st hc
  have g3' : cell o'.Ts o'.h o'.w r' c1 = z := by rw [← U.ts, ← U.h, ← U.w]; exact g3
  have st2 : Step o' (some ((r, c0), t)) c (some ((r', c1), t.map (tw (o'.β (cell o'.Ts o'.h o'.w r' c1))))) := .turn (U.goes g1) g2 (g3' ▸ g4)
  rw [g3'] at st2
  have := st'.uniq O' st2
  subst this
  refine ⟨r', c1, _, _, hq, b2, fun e => hz ?_⟩
  exact tw_inj (O.tn _ g4 ⟨_, _, g3⟩) (O'.tn _ g4 ⟨_, _, g3'⟩) hok.2 e
/-! ### comings as lists -/
theorem comL_congr {o o' : Wo} (e1 : o.Ts = o'.Ts) (e2 : o.h = o'.h) (e3 : o.w = o'.w) {l l' : List St} {k : Nat} (hp : ∀ i, i ≤ k → (l[i]?).map posO = (l'[i]?).map posO) : comL o l k = comL o' l' k := by
  unfold comL
  have : ∀ js : List Nat, (∀ j ∈ js, j < k) → js.filterMap (fun i => match l[i]?, l[i + 1]? with
  | some a, some b => comAt o (i + 1) a b
  | _, _ => none) = js.filterMap (fun i => match l'[i]?, l'[i + 1]? with
  | some a, some b => comAt o' (i + 1) a b
  | _, _ => none) := by
    intro js
    induction js with
    | nil => intro _; rfl
    | cons j js ih =>
      intro hj
      have h1 := hp j (by have := hj j List.mem_cons_self; omega)
      have h2 := hp (j + 1) (by have := hj j List.mem_cons_self; omega)
      have e : (match l[j]?, l[j + 1]? with
  | some a, some b => comAt o (j + 1) a b
  | _, _ => none) = (match l'[j]?, l'[j + 1]? with
  | some a, some b => comAt o' (j + 1) a b
  | _, _ => none) := by
        cases q1 : l[j]? with
        | none => cases q2 : l'[j]? with
          | none => rfl
          | some _ => rw [q1, q2] at h1; cases h1
        | some a => cases q2 : l'[j]? with
          | none => rw [q1, q2] at h1; cases h1
          | some a' => cases q3 : l[j + 1]? with
            | none => cases q4 : l'[j + 1]? with
              | none => rfl
              | some _ => rw [q3, q4] at h2; cases h2
            | some b => cases q4 : l'[j + 1]? with
              | none => rw [q3, q4] at h2; cases h2
              | some b' =>
                rw [q1, q2] at h1
                rw [q3, q4] at h2
                exact comAt_pos e1 e2 e3 (Option.some.inj h1) (Option.some.inj h2)
      rw [List.filterMap_cons, List.filterMap_cons, e, ih fun j hj' => hj j (List.mem_cons_of_mem _ hj')]
  exact this _ fun j hj => List.mem_range.mp hj
/-- beats of a letter -/
def bt (z : Char) : W → Option W := fun v => match v with
  | .tup [.int i, .str c] => if decide (c = [z]) = true then some (.int i) else none
  | _ => none
/-- not later than -/
def le1 (j : Int) : W → Option W := fun v => match v with
  | .tup [.int i, .str c] => if decide (i ≤ j) = true then some (.tup [.int i, .str c]) else none
  | _ => none
theorem comL_mem {o : Wo} {l : List St} {k : Nat} {w : W} (h : w ∈ comL o l k) : ∃ i p q z, i < k ∧ l[i]? = some p ∧ l[i + 1]? = some q ∧ isCom o z p q ∧ w = .tup [.int (i + 1 : Nat), .str [z]] := by
  unfold comL at h
  obtain ⟨i, hi, e⟩ := List.mem_filterMap.mp h
  split at e
  · rename_i a b h1 h2
    obtain ⟨z, g, rfl⟩ := comAt_ix.mp e
    exact ⟨i, a, b, z, List.mem_range.mp hi, h1, h2, g, rfl⟩
  · cases e
/-- the first beat of a letter, or none -/
theorem beats_cases {o : Wo} {z : Char} {l : List St} : ∀ k : Nat, k + 1 ≤ l.length → (((comL o l k).filterMap (bt z) = [] ∧ ∀ i, i < k → ∀ p q, l[i]? = some p → l[i + 1]? = some q → ¬ isCom o z p q) ∨
    ∃ j ws p q, (comL o l k).filterMap (bt z) = .int (j + 1 : Nat) :: ws ∧ j < k ∧ l[j]? = some p ∧ l[j + 1]? = some q ∧ isCom o z p q ∧ ∀ i, i < j → ∀ p q, l[i]? = some p → l[i + 1]? = some q → ¬ isCom o z p q)
  | 0, _ => .inl ⟨rfl, fun i hi => by omega⟩
  | k + 1, hk => by
    have a1 : l[k]? = some (l[k]'(by omega)) := List.getElem?_eq_getElem _
    have a2 : l[k + 1]? = some (l[k + 1]'(by omega)) := List.getElem?_eq_getElem _
    generalize l[k]'(by omega) = p at a1
    generalize l[k + 1]'(by omega) = q at a2
    rw [comL_succ o l a1 a2, List.filterMap_append]
    rcases beats_cases (o := o) (z := z) (l := l) k (by omega) with ⟨h1, h2⟩ | ⟨j, ws, p', q', h1, h2, h3, h4, h5, h6⟩
    · rw [h1, List.nil_append]
      cases e : comAt o (k + 1) p q with
      | none =>
        refine .inl ⟨rfl, fun i hi p' q' e1 e2 g => ?_⟩
        by_cases hik : i = k
        · subst hik
          rw [a1] at e1
          rw [a2] at e2
          cases e1
          cases e2
          have := (comAt_ix (o := o) (i := i + 1) (a := p) (b := q)).mpr ⟨z, g, rfl⟩
          rw [e] at this
          cases this
        · exact h2 i (by omega) p' q' e1 e2 g
      | some w =>
        obtain ⟨z', g, rfl⟩ := comAt_ix.mp e
        by_cases hz : z' = z
        · subst hz
          exact .inr ⟨k, [], p, q, by simp [bt], by omega, a1, a2, g, h2⟩
        · refine .inl ⟨by simp [bt, hz], fun i hi p' q' e1 e2 g' => ?_⟩
          by_cases hik : i = k
          · subst hik
            rw [a1] at e1
            rw [a2] at e2
            cases e1
            cases e2
            unfold isCom at g g'
            rw [g] at g'
            simp at g'
            exact hz g'
          · exact h2 i (by omega) p' q' e1 e2 g'
    · exact .inr ⟨j, ws ++ ((comAt o (k + 1) p q).toList.filterMap (bt z)), p', q', by rw [h1]; rfl, by omega, h3, h4, h5, h6⟩
/-- the comings till a beat -/
theorem comL_le {o : Wo} {l : List St} {j : Nat} : ∀ k : Nat, j ≤ k → k + 1 ≤ l.length → (comL o l k).filterMap (le1 j) = comL o l j
  | 0, hj, _ => by
    have : j = 0 := by omega
    subst this
    rfl
  | k + 1, hj, hk => by
    by_cases e : j = k + 1
    · subst e
      have : ∀ ws : List W, (∀ w ∈ ws, ∃ i z, i ≤ k + 1 ∧ w = .tup [.int (i : Nat), .str z]) → ws.filterMap (le1 (k + 1 : Nat)) = ws := by
        intro ws
        induction ws with
        | nil => intro _; rfl
        | cons a ws ih =>
          intro h
          obtain ⟨i, z, hi, rfl⟩ := h a List.mem_cons_self
          have hle : decide ((i : Int) ≤ (k + 1 : Nat)) = true := decide_eq_true (by omega)
          rw [List.filterMap_cons, ih fun w hw => h w (List.mem_cons_of_mem _ hw)]
          simp only [le1, hle, if_true]
      refine this _ fun w hw => ?_
      obtain ⟨i, p, q, z, hi, _, _, _, rfl⟩ := comL_mem hw
      exact ⟨i + 1, [z], by omega, rfl⟩
    · have a1 : l[k]? = some (l[k]'(by omega)) := List.getElem?_eq_getElem _
      have a2 : l[k + 1]? = some (l[k + 1]'(by omega)) := List.getElem?_eq_getElem _
      generalize l[k]'(by omega) = p at a1
      generalize l[k + 1]'(by omega) = q at a2
      rw [comL_succ o l a1 a2, List.filterMap_append, comL_le (o := o) (l := l) k (by omega) (by omega)]
      cases e2 : comAt o (k + 1) p q with
      | none => simp
      | some w =>
        obtain ⟨z', g, rfl⟩ := comAt_ix.mp e2
        have hle : decide (((k + 1 : Nat) : Int) ≤ j) = false := decide_eq_false (by omega)
        simp only [Option.toList, List.filterMap_cons, List.filterMap_nil, le1, hle]
        simp
end Sp
end

section
set_option Elab.async false
set_option linter.all false
set_option maxRecDepth 100000
set_option maxHeartbeats 4000000
/-! Wp7: draws; a world made. -/
namespace Sp
open Mi
variable {T : Tab} {C D : Cl} {m : Mem} {Q : W → Mem → Prop} {n : Nat}
theorem Keep.setGeW {M m : Mem} {j : Nat} {o : Ob} (h : Keep M m) (hj : M.length ≤ j) : Keep M (m.set j o) := fun l u e => by
  have := lt_of_at e
  rw [set_ne (by omega)]
  exact h l u e
theorem SrcAt.extW {m m2 : Mem} {j : Nat} {k : Int} (h : SrcAt m j k) (g : Ext m m2) : SrcAt m2 j k := let ⟨z, e⟩ := g; by rw [e]; exact h.app
/-- a source with at most so many draws -/
def SrcB (m : Mem) (j K : Nat) : Prop := ∃ k : Int, SrcAt m j k ∧ 0 ≤ k ∧ k ≤ K
theorem SrcB.lt {j K : Nat} (h : SrcB m j K) : j < m.length := let ⟨_, h, _⟩ := h; h.lt
theorem SrcB.app {j K : Nat} {g : Mem} (h : SrcB m j K) : SrcB (m ++ g) j K := let ⟨k, h, a⟩ := h; ⟨k, h.app, a⟩
theorem SrcB.set {j K l : Nat} {o : Ob} (h : SrcB m j K) (hl : l ≠ j) : SrcB (m.set l o) j K := let ⟨k, h, a⟩ := h; ⟨k, h.set hl, a⟩
theorem SrcB.ext {j K : Nat} {m' : Mem} (h : SrcB m j K) (g : Ext m m') : SrcB m' j K := let ⟨k, h, a⟩ := h; ⟨k, h.extW g, a⟩
theorem SrcB.le {j K K' : Nat} (h : SrcB m j K) (g : K ≤ K') : SrcB m j K' := let ⟨k, h, a, b⟩ := h; ⟨k, h, a, by omega⟩
theorem Ext.frm {m m' : Mem} (h : Ext m m') (j : Nat) : Frm m j m' := let ⟨z, e⟩ := h; e ▸ (Frm.refl m j).app
theorem Frm.le {m m' : Mem} {j : Nat} (h : Frm m j m') : m.length ≤ m'.length := h.1
theorem sb_take (X : TexOk T) (hn : 2 ≤ n) {j K : Nat} {mx : Int} (hs : SrcB m j K) (hK : K < 2 ^ 38) (hm : 0 < mx ∧ mx < 2 ^ 60) (hq : ∀ r m', 0 ≤ r → r < mx → SrcB m' j (K + 1) → Frm m j m' → Q (.int r) m') : Rwp (callN T n 7 [.obj j, .int mx] m) Q := by
  obtain ⟨k, hs, k0, k1⟩ := hs
  exact sp_take X.t6 X.t7 hn hs (by omega) hm fun r a c k' r0 r1 h0 h1 => hq r _ r0 r1 ⟨k', set_src hs, by omega, by omega⟩ (Frm.refl m j).setj
theorem sb_oneL (X : TexOk T) (hn : 3 ≤ n) {j l K : Nat} {ws : List W} (hs : SrcB m j K) (hK : K < 2 ^ 38) (hl : m[l]? = some (.lst ws)) (hne : ws ≠ []) (hz : ws.length < 2 ^ 60) (hjl : j ≠ l) (hq : ∀ w m', w ∈ ws → SrcB m' j (K + 1) → Frm m j m' → Q w m') : Rwp (callN T n 8 [.obj j, .obj l] m) Q := by
  obtain ⟨k, hs, k0, k1⟩ := hs
  exact sp_oneL X.t6 X.t7 X.t8 hn hs (by omega) hl hne hz hjl fun w a c k' hw h0 h1 => hq w _ hw ⟨k', set_src hs, by omega, by omega⟩ (Frm.refl m j).setj
theorem sb_oneX (X : TexOk T) (hn : 3 ≤ n) {j K : Nat} {x : Tx} (hs : SrcB m j K) (hK : K < 2 ^ 38) (hne : x ≠ []) (hz : x.length ≤ SL) (hq : ∀ d m', d ∈ x → SrcB m' j (K + 1) → Frm m j m' → Q (.str [d]) m') : Rwp (callN T n 8 [.obj j, .str x] m) Q := by
  obtain ⟨k, hs, k0, k1⟩ := hs
  exact sp_oneX X.t6 X.t7 X.t8 hn hs (by omega) hne hz fun d a c k' hd h0 h1 => hq d _ hd ⟨k', set_src hs, by omega, by omega⟩ (Frm.refl m j).setj
def swingX : List Tx := turnsX ++ [urdl, urdl]
theorem swing_turn {t : Tx} (h : t ∈ swingX) : t ∈ turnsX := by
  have key : ∀ t ∈ swingX, t ∈ turnsX := by decide +kernel
  exact key t h
theorem sp_swing (X : TexOk T) (hT : T.fn 45 = some MB.b45_swing) (hn : 4 ≤ n) {j K : Nat} (hs : SrcB m j K) (hK : K < 2 ^ 38) (hq : ∀ t m', t ∈ turnsX → SrcB m' j (K + 1) → Frm m j m' → Q (.str t) m') : Rwp (callN T n 45 [.obj j] m) Q := by
  obtain ⟨n, rfl⟩ : ∃ k, n = k + 1 := ⟨n - 1, by omega⟩
  refine call_wp hT rfl ?_
  have hj := hs.lt
  simp [MB.b45_swing]
  refine sb_oneL X (by omega) (ws := swingX.map W.str) hs.app hK app_new (by simp [swingX, turnsX]) (by simp [swingX, turnsX]) (by omega) fun w m' hw s1 f1 => ?_
  obtain ⟨t, ht, rfl⟩ := List.mem_map.mp hw
  exact hq t m' (swing_turn ht) s1 ((Frm.refl m j).app.trans f1)
theorem sp_deeds (X : TexOk T) (hT : T.fn 43 = some MB.b43_deeds) (hn : 4 ≤ n) {j K most : Nat} (hs : SrcB m j K) (hK : K + 1000000 < 2 ^ 38) (hm : most ≤ 1000) (hq : ∀ x m', (∀ c ∈ x, c ∈ urdl) → x.length ≤ most → SrcB m' j (K + 1 + most) → Frm m j m' → Q (.str x) m') : Rwp (callN T n 43 [.obj j, .int most] m) Q := by
  obtain ⟨n, rfl⟩ : ∃ k, n = k + 1 := ⟨n - 1, by omega⟩
  refine call_wp hT rfl ?_
  simp [MB.b43_deeds, rcvOk, isStrW]
  rw [w_lc]
  simp
  refine sb_take X (by omega) hs (by omega) ⟨by omega, by omega⟩ fun r m1 r0 r1 s1 f1 => ?_
  obtain ⟨a, rfl⟩ : ∃ a : Nat, r = a := ⟨r.toNat, by omega⟩
  rw [rng1 (k := a) rfl (by omega)]
  simp only [optP_some]
  have hj := s1.lt
  refine lc_wp (ws := (List.range a).map fun (i : Nat) => W.int i) (fun i acc m' => ∃ x : Tx, acc = (x.map fun c => W.str [c]) ∧ x.length = i ∧ (∀ c ∈ x, c ∈ urdl) ∧ SrcB m' j (K + 1 + i) ∧ Frm m1 j m' ∧ m'[m1.length]? = some (.lst acc)) (by simp [Src.len, Bs.len]) (by simp only [SL, List.length_map, List.length_range]; omega) ⟨[], rfl, rfl, by simp, s1.app, (Frm.refl m1 j).app, app_new⟩ (fun i acc m' h => sees_st) (fun i x acc m' hx h hl => ?_) (fun acc m' h => ?_)
  · obtain ⟨y, rfl, hy, hd, s2, f2, hat⟩ := h
    have hi : i < a := by have := (List.getElem?_eq_some_iff.mp hx).1; simpa using this
    unfold lcB1
    simp [asgT, wipeE]
    refine sb_oneX X (by omega) s2 (by omega) (by simp) (by simp [SL]) fun d m2 hdx s3 f3 => ?_
    have hml : m1.length < m'.length := lt_of_at hat
    have hjm : m1.length ≠ j := by omega
    refine ⟨f3.at hat hjm, y ++ [d], by simp, by simp [hy], fun c hc => ?_, s3.set hjm, (f2.trans f3).set (Nat.le_refl _), set_at (f3.at hat hjm)⟩
    rcases List.mem_append.mp hc with hc | hc
    · exact hd c hc
    · rw [List.mem_singleton.mp hc]; exact hdx
  · obtain ⟨y, rfl, hy, hd, s2, f2, hat⟩ := h
    simp only [List.length_map, List.length_range] at hy s2
    rw [r_joinO hat (by simp only [SL]; omega)]
    exact hq y m' hd (by omega) (s2.le (by omega)) (f1.trans f2)
/-! ### a plan -/
structure Plan where
  Ts : List Tx
  h : Nat
  w : Nat
  r : Int
  c : Int
  t : Tx
  β : Char → Tx
  gs : List W
structure Plan.Ok (P : Plan) : Prop where
  fl : Fl P.Ts P.h P.w
  h6 : P.h ≤ 6
  w6 : P.w ≤ 6
  opn : W.tup [.int P.r, .int P.c] ∈ openW P.Ts P.h P.w
  tn : P.t ∈ turnsX
  bt : ∀ l ∈ lettersOf P.Ts, P.β l ∈ turnsX
  gok : GoalOk P.h P.w P.gs
def Plan.bk (P : Plan) : List (W × W) := bookW (lettersOf P.Ts) P.β
def Plan.wo (P : Plan) : Wo := ⟨P.Ts, P.h, P.w, P.β⟩
theorem Plan.Ok.wo {P : Plan} (h : P.Ok) : P.wo.Ok P.bk := book_ok (o := P.wo) h.fl h.bt
def sTexts : W := .str ['t', 'e', 'x', 't', 's']
def sFrom : W := .str ['f', 'r', 'o', 'm']
def sSwing : W := .str ['s', 'w', 'i', 'n', 'g']
def sPages : W := .str ['p', 'a', 'g', 'e', 's']
def sGoals : W := .str ['g', 'o', 'a', 'l', 's']
def planD (P : Plan) (tp pg gl : Nat) : List (W × W) := [(sTexts, .obj tp), (sFrom, .tup [.int P.r, .int P.c]), (sSwing, .str P.t), (sPages, .obj pg), (sGoals, .obj gl)]
def dctAny (m : Mem) (p : Nat) (kvs : List (W × W)) : Prop := m[p]? = some (.dct kvs) ∨ m[p]? = some (.dcl kvs)
theorem dctAny.at {p : Nat} {kvs : List (W × W)} (h : dctAny m p kvs) : dctAt m (.obj p) = some kvs := by
  rcases h with h | h <;> simp only [dctAt, h]
theorem dctAny.keep {p : Nat} {kvs : List (W × W)} {m' : Mem} (h : dctAny m p kvs) (k : Keep m m') : dctAny m' p kvs := h.imp (k _ _) (k _ _)
structure PlanAt (m : Mem) (p tp pg gl : Nat) (P : Plan) : Prop where
  at_ : m[p]? = some (.dct (planD P tp pg gl))
  tex : m[tp]? = some (.lst (P.Ts.map W.str))
  pag : dctAny m pg P.bk
  gol : m[gl]? = some (.lst P.gs)
theorem PlanAt.keep {p tp pg gl : Nat} {P : Plan} {m' : Mem} (h : PlanAt m p tp pg gl P) (k : Keep m m') : PlanAt m' p tp pg gl P := ⟨k _ _ h.at_, k _ _ h.tex, h.pag.keep k, k _ _ h.gol⟩
theorem r_idxA {k : Nat} {kvs : List (W × W)} {u : W} (h : dctAt m (.obj k) = some kvs) (hu : isKey u = true) : Rwp (idxW (.obj k) u m) Q = optP (getK kvs u) fun w => Q w m := by
  simp only [idxW, h, if_pos hu]
  exact Rwp_ofO
theorem r_dict1 {k : Nat} {kvs : List (W × W)} (h : dctAt m (.obj k) = some kvs) : Rwp (bltW .dict1 [.obj k] m) Q = Q (.obj m.length) (m ++ [.dct kvs]) := by
  simp only [bltW, h]
  rfl
theorem r_list {k : Nat} {ws : List W} (h : m[k]? = some (.lst ws)) : Rwp (bltW .list [.obj k] m) Q = Q (.obj m.length) (m ++ [.lst ws]) := by
  simp only [bltW, seqW_lst h]
  rfl
@[simp] theorem gk_texts {P : Plan} {tp pg gl : Nat} : getK (planD P tp pg gl) (.str ['t', 'e', 'x', 't', 's']) = some (.obj tp) := by simp [getK, planD, keyEq, sTexts]
@[simp] theorem gk_from {P : Plan} {tp pg gl : Nat} : getK (planD P tp pg gl) (.str ['f', 'r', 'o', 'm']) = some (.tup [.int P.r, .int P.c]) := by simp [getK, planD, keyEq, sTexts, sFrom]
@[simp] theorem gk_swing {P : Plan} {tp pg gl : Nat} : getK (planD P tp pg gl) (.str ['s', 'w', 'i', 'n', 'g']) = some (.str P.t) := by simp [getK, planD, keyEq, sTexts, sFrom, sSwing]
@[simp] theorem gk_pages {P : Plan} {tp pg gl : Nat} : getK (planD P tp pg gl) (.str ['p', 'a', 'g', 'e', 's']) = some (.obj pg) := by simp [getK, planD, keyEq, sTexts, sFrom, sSwing, sPages]
@[simp] theorem gk_goals {P : Plan} {tp pg gl : Nat} : getK (planD P tp pg gl) (.str ['g', 'o', 'a', 'l', 's']) = some (.obj gl) := by simp [getK, planD, keyEq, sTexts, sFrom, sSwing, sPages, sGoals]
theorem sp_made (K : FlOk T C) (U : TuOk T) (V : WoOk T D) (M : WmOk T C D) (hT : T.fn 41 = some MB.b41_made) (hn : 10 ≤ n) {p tp pg gl : Nat} {P : Plan} (O : P.Ok) (hp : PlanAt m p tp pg gl P)
    (hq : ∀ q f pg' m', Ext m m' → WdAt m' q f pg' P.wo P.bk (.tup (srtB codeW P.gs)) (.tup [.int P.r, .int P.c]) (some ((P.r, P.c), P.t)) → m.length ≤ q → m.length ≤ pg' → Q (.obj q) m') : Rwp (callN T n 41 [.obj p] m) Q := by
  obtain ⟨n, rfl⟩ : ∃ k, n = k + 1 := ⟨n - 1, by omega⟩
  refine call_wp hT rfl ?_
  simp [MB.b41_made, w_make, w_makeK]
  rw [r_idxA (dctAt_dct hp.at_) rfl]
  simp
  rw [r_list hp.tex]
  simp [K.c, K.ini]
  have e0 : Ext m (m ++ [.lst (P.Ts.map W.str)]) := ⟨_, rfl⟩
  have h0 : (m ++ [.lst (P.Ts.map W.str)])[m.length]? = some (.lst (P.Ts.map W.str)) := app_new
  have e1 : m ++ [Ob.lst (P.Ts.map W.str), Ob.ins 0 []] = (m ++ [.lst (P.Ts.map W.str)]) ++ [Ob.ins 0 []] := by simp
  have e2 : m.length + 1 = (m ++ [Ob.lst (P.Ts.map W.str)]).length := by simp
  rw [e1, e2]
  generalize m ++ [Ob.lst (P.Ts.map W.str)] = m0 at e0 h0 ⊢
  refine sp_make K (by omega) O.fl O.h6 O.w6 h0 fun z => ⟨rfl, ?_⟩
  have ha : FlAt (m0 ++ .ins 0 [(0, .tup (P.Ts.map W.str))] :: z) m0.length P.Ts := app_new
  have e3 : Ext m (m0 ++ .ins 0 [(0, .tup (P.Ts.map W.str))] :: z) := e0.app
  generalize m0 ++ .ins 0 [(0, .tup (P.Ts.map W.str))] :: z = m1 at ha e3 ⊢
  have hp1 := hp.keep e3.keep
  rw [r_idxA (dctAt_dct hp1.at_) rfl]
  simp
  rw [r_idxA (dctAt_dct hp1.at_) rfl]
  simp
  rw [r_idxA (dctAt_dct hp1.at_) rfl]
  simp
  rw [r_dict1 hp1.pag.at]
  have e4 : Ext m1 (m1 ++ [.dct P.bk]) := ⟨_, rfl⟩
  have hp2 := hp1.keep e4.keep
  have h2 : (m1 ++ [.dct P.bk])[m1.length]? = some (.dct P.bk) := app_new
  generalize m1 ++ [.dct P.bk] = m2 at e4 hp2 h2 ⊢
  rw [r_idxA (dctAt_dct hp2.at_) rfl]
  simp
  rw [r_list hp2.gol]
  have e5 : Ext m2 (m2 ++ [.lst P.gs]) := ⟨_, rfl⟩
  have hp3 := hp2.keep e5.keep
  have h3 : (m2 ++ [.lst P.gs])[m2.length]? = some (.lst P.gs) := app_new
  have e6 : Ext m (m2 ++ [.lst P.gs]) := (e3.trans e4).trans e5
  have e7 : Ext m1 (m2 ++ [.lst P.gs]) := e4.trans e5
  generalize m2 ++ [.lst P.gs] = m3 at e5 hp3 h3 e6 e7 ⊢
  have ep : ∀ u, permW [Pk.a 0, Pk.a 1, Pk.a 2, Pk.a 3, Pk.a 4, Pk.a 5] [.obj m3.length, .obj m0.length, .tup [.int P.r, .int P.c], .str P.t, .obj m1.length, .obj u] = some [.obj m3.length, .obj m0.length, .tup [.int P.r, .int P.c], .str P.t, .obj m1.length, .obj u] := fun u => rfl
  simp [V.c, V.ini, ep]
  refine sp_world K U V M (by omega) O.fl (e7.at ha) O.opn O.tn (e5.at h2) O.bt h3 O.gok fun z' pg' hpl hpg => ⟨rfl, ?_⟩
  exact hq _ _ _ _ e6.app ⟨app_new, app_at (e7.at ha), hpg⟩ (by obtain ⟨z, e⟩ := e6; rw [e]; simp) (by obtain ⟨z, e⟩ := e6; rw [e] at hpl; simp at hpl; omega)
end Sp
end

section
set_option Elab.async false
set_option linter.all false
set_option maxRecDepth 100000
set_option maxHeartbeats 4000000
/-! Wp8: the other world; what is right. -/
namespace Sp
open Mi
variable {T : Tab} {C D : Cl} {m : Mem} {Q : W → Mem → Prop} {n : Nat}
theorem rem_turn {t : Tx} (ht : t ∈ turnsX) : ∃ j, turnsX.findIdx? (fun y => decide (y = t)) = some j ∧ ∀ u ∈ turnsX.eraseIdx j, u ∈ turnsX ∧ u ≠ t := by
  simp only [turnsX, List.mem_cons, List.not_mem_nil, or_false] at ht
  rcases ht with rfl | rfl | rfl | rfl | rfl | rfl | rfl | rfl
  · exact ⟨0, by decide +kernel, by decide +kernel⟩
  · exact ⟨1, by decide +kernel, by decide +kernel⟩
  · exact ⟨2, by decide +kernel, by decide +kernel⟩
  · exact ⟨3, by decide +kernel, by decide +kernel⟩
  · exact ⟨4, by decide +kernel, by decide +kernel⟩
  · exact ⟨5, by decide +kernel, by decide +kernel⟩
  · exact ⟨6, by decide +kernel, by decide +kernel⟩
  · exact ⟨7, by decide +kernel, by decide +kernel⟩
theorem strL_map : ∀ l : List Tx, strL (l.map W.str) = some l
  | [] => rfl
  | t :: l => by
    have ih := strL_map l
    unfold strL at ih ⊢
    simp only [List.map_cons, optL, ih]
theorem erase_map {A E : Type} (f : A → E) : ∀ (l : List A) (j : Nat), (l.map f).eraseIdx j = (l.eraseIdx j).map f
  | [], _ => rfl
  | a :: l, 0 => rfl
  | a :: l, j + 1 => by
    simp only [List.map_cons, List.eraseIdx_cons_succ, erase_map f l j]
theorem r_remove {k j : Nat} {xs : List Tx} {x : Tx} (h : m[k]? = some (.lst (xs.map W.str))) (hj : xs.findIdx? (fun y => decide (y = x)) = some j) : Rwp (bmW .remove (.obj k) [.str x] m) Q = Q .non (m.set k (.lst ((xs.eraseIdx j).map W.str))) := by
  simp only [bmW, h, strL_map, hj, erase_map]
  rfl
def Plan.with (P : Plan) (z : Char) (t : Tx) : Plan := { P with β := fun d => if d = z then t else P.β d }
theorem Plan.Ok.with {P : Plan} (h : P.Ok) {z : Char} {t : Tx} (ht : t ∈ turnsX) : (P.with z t).Ok := ⟨h.fl, h.h6, h.w6, h.opn, h.tn, fun l hl => by
  show (if l = z then t else P.β l) ∈ turnsX
  split
  · exact ht
  · exact h.bt l hl, h.gok⟩
theorem put_pages {P : Plan} {tp pg gl q : Nat} : putW (planD P tp pg gl) (.str ['p', 'a', 'g', 'e', 's']) (.obj q) = planD P tp q gl := by
  simp [putW, planD, keyEq, sTexts, sFrom, sSwing, sPages, sGoals]
theorem sp_other (K : FlOk T C) (U : TuOk T) (V : WoOk T D) (M : WmOk T C D) (X : TexOk T) (t41 : T.fn 41 = some MB.b41_made) (hT : T.fn 42 = some MB.b42_other) (hn : 11 ≤ n) {j kk p tp pg gl : Nat} {P : Plan} (O : P.Ok) (hp : PlanAt m p tp pg gl P) (hs : SrcB m j kk) (hk : kk < 2 ^ 38) (jp : j ≠ p) (jt : j ≠ tp) (jpg : j ≠ pg) (jg : j ≠ gl) {z : Char} (hz : z ∈ lettersOf P.Ts)
    (hq : ∀ t q f pg' m', t ∈ turnsX → t ≠ P.β z → SrcB m' j (kk + 1) → Frm m j m' → WdAt m' q f pg' (P.with z t).wo (P.with z t).bk (.tup (srtB codeW P.gs)) (.tup [.int P.r, .int P.c]) (some ((P.r, P.c), P.t)) → m.length ≤ q → Q (.obj q) m') : Rwp (callN T n 42 [.obj j, .obj p, .str [z]] m) Q := by
  obtain ⟨n, rfl⟩ : ∃ k, n = k + 1 := ⟨n - 1, by omega⟩
  refine call_wp hT rfl ?_
  have hjl := hs.lt
  simp [MB.b42_other, rcvOk, isLstO]
  have lp := lt_of_at hp.at_
  have lt := lt_of_at hp.tex
  have lg := lt_of_at hp.gol
  have lpg : pg < m.length := by rcases hp.pag with h | h <;> exact lt_of_at h
  -- the list of turns
  have e0 : m ++ [Ob.lst [.str ['u', 'r', 'd', 'l'], .str ['r', 'd', 'l', 'u'], .str ['d', 'l', 'u', 'r'], .str ['l', 'u', 'r', 'd'], .str ['u', 'l', 'd', 'r'], .str ['d', 'r', 'u', 'l'], .str ['l', 'd', 'r', 'u'], .str ['r', 'u', 'l', 'd']]] = m ++ [.lst (turnsX.map W.str)] := rfl
  rw [e0]
  have hp0 : PlanAt (m ++ [.lst (turnsX.map W.str)]) p tp pg gl P := hp.keep (Ext.keep ⟨_, rfl⟩)
  have h0 : (m ++ [.lst (turnsX.map W.str)])[m.length]? = some (.lst (turnsX.map W.str)) := app_new
  have s0 : SrcB (m ++ [.lst (turnsX.map W.str)]) j kk := hs.app
  have f0 : Frm m j (m ++ [.lst (turnsX.map W.str)]) := (Frm.refl m j).app
  have l0 : (m ++ [Ob.lst (turnsX.map W.str)]).length = m.length + 1 := by simp
  generalize m ++ [.lst (turnsX.map W.str)] = m0 at hp0 h0 s0 f0 l0 ⊢
  rw [r_idxA (dctAt_dct hp0.at_) rfl]
  simp
  rw [r_idxA hp0.pag.at rfl]
  have e1 : getK P.bk (.str [z]) = some (.str (P.β z)) := book_get hz
  rw [e1]
  simp only [optP_some]
  obtain ⟨i, hi, hrem⟩ := rem_turn (O.bt z hz)
  rw [r_remove h0 hi]
  have hp1 : PlanAt (m0.set m.length (.lst ((turnsX.eraseIdx i).map W.str))) p tp pg gl P := ⟨by rw [set_ne (by omega)]; exact hp0.at_, by rw [set_ne (by omega)]; exact hp0.tex, by unfold dctAny; rw [set_ne (by omega)]; exact hp0.pag, by rw [set_ne (by omega)]; exact hp0.gol⟩
  have h1 : (m0.set m.length (.lst ((turnsX.eraseIdx i).map W.str)))[m.length]? = some (.lst ((turnsX.eraseIdx i).map W.str)) := set_at h0
  have s1 : SrcB (m0.set m.length (.lst ((turnsX.eraseIdx i).map W.str))) j kk := s0.set (by omega)
  have f1 : Frm m j (m0.set m.length (.lst ((turnsX.eraseIdx i).map W.str))) := f0.set (Nat.le_refl _)
  have l1 : (m0.set m.length (.lst ((turnsX.eraseIdx i).map W.str))).length = m.length + 1 := by simp [l0]
  generalize m0.set m.length (.lst ((turnsX.eraseIdx i).map W.str)) = m1 at hp1 h1 s1 f1 l1 ⊢
  rw [r_dict1 (dctAt_dct hp1.at_)]
  have hp2 : PlanAt (m1 ++ [.dct (planD P tp pg gl)]) p tp pg gl P := hp1.keep (Ext.keep ⟨_, rfl⟩)
  rw [r_idxA (dctAt_dct hp2.at_) rfl]
  simp
  rw [r_dict1 hp2.pag.at]
  simp
  have h3 : (m1 ++ [.dct (planD P tp pg gl), .dct P.bk])[m1.length]? = some (.dct (planD P tp pg gl)) := app_new
  have h3b : (m1 ++ [.dct (planD P tp pg gl), .dct P.bk])[m1.length + 1]? = some (.dct P.bk) := by rw [List.getElem?_append_right (by omega)]; simp
  have s3 : SrcB (m1 ++ [.dct (planD P tp pg gl), .dct P.bk]) j kk := s1.app
  have f3 : Frm m j (m1 ++ [.dct (planD P tp pg gl), .dct P.bk]) := f1.app
  have l3 : (m1 ++ [Ob.dct (planD P tp pg gl), Ob.dct P.bk]).length = m.length + 3 := by simp [l1]
  have h3c : (m1 ++ [.dct (planD P tp pg gl), .dct P.bk])[m.length]? = some (.lst ((turnsX.eraseIdx i).map W.str)) := app_at h1
  rw [l1] at h3 h3b ⊢
  generalize m1 ++ [.dct (planD P tp pg gl), .dct P.bk] = m3 at h3 h3b s3 f3 l3 h3c ⊢
  have e3 : subW (.obj (m.length + 1)) sPages (.obj (m.length + 2)) m3 = some (m3.set (m.length + 1) (.dct (planD P tp (m.length + 2) gl))) := by
    simp only [subW, h3]
    rw [if_pos ⟨rfl, by simp [planD, SL]⟩]
    unfold sPages
    rw [put_pages]
  have e3' := e3
  unfold sPages at e3'
  rw [e3']
  simp only [optP_some]
  have h4 : (m3.set (m.length + 1) (.dct (planD P tp (m.length + 2) gl)))[m.length + 1]? = some (.dct (planD P tp (m.length + 2) gl)) := set_at h3
  have h4b : (m3.set (m.length + 1) (.dct (planD P tp (m.length + 2) gl)))[m.length + 2]? = some (.dct P.bk) := by rw [set_ne (by omega)]; exact h3b
  have h4c : (m3.set (m.length + 1) (.dct (planD P tp (m.length + 2) gl)))[m.length]? = some (.lst ((turnsX.eraseIdx i).map W.str)) := by rw [set_ne (by omega)]; exact h3c
  have s4 : SrcB (m3.set (m.length + 1) (.dct (planD P tp (m.length + 2) gl))) j kk := s3.set (by omega)
  have f4 : Frm m j (m3.set (m.length + 1) (.dct (planD P tp (m.length + 2) gl))) := f3.set (by omega)
  generalize m3.set (m.length + 1) (.dct (planD P tp (m.length + 2) gl)) = m4 at h4 h4b h4c s4 f4 ⊢
  have hlen : (turnsX.eraseIdx i).length ≤ 8 := by
    have := List.length_eraseIdx_le turnsX i
    simpa [turnsX] using this
  have hlen2 : 0 < (turnsX.eraseIdx i).length := by
    rw [List.length_eraseIdx]
    split <;> simp [turnsX]
  refine sb_oneL X (by omega) s4 hk h4c (by intro e; rw [List.map_eq_nil_iff] at e; rw [e] at hlen2; cases hlen2) (by simp; omega) (by omega) fun w m5 hw s5 f5 => ?_
  obtain ⟨t, ht, rfl⟩ := List.mem_map.mp hw
  obtain ⟨ht1, ht2⟩ := hrem t ht
  have h5 := f5.at h4 (by omega)
  have h5b := f5.at h4b (by omega)
  have f6 := f4.trans f5
  rw [r_idxA (dctAt_dct h5) rfl]
  simp
  have e5 : subW (.obj (m.length + 2)) (.str [z]) (.str t) m5 = some (m5.set (m.length + 2) (.dct (P.with z t).bk)) := by
    have hle := letters_le P.Ts
    simp only [subW, h5b]
    rw [if_pos ⟨rfl, by simp only [Plan.bk, bookW, List.length_map, SL]; omega⟩]
    unfold Plan.bk
    rw [put_book hz]
    rfl
  rw [e5]
  simp only [optP_some]
  have h6 : (m5.set (m.length + 2) (.dct (P.with z t).bk))[m.length + 1]? = some (.dct (planD (P.with z t) tp (m.length + 2) gl)) := by rw [set_ne (by omega)]; exact h5
  have h6b : (m5.set (m.length + 2) (.dct (P.with z t).bk))[m.length + 2]? = some (.dct (P.with z t).bk) := set_at h5b
  have s6 := s5.set (l := m.length + 2) (o := .dct (P.with z t).bk) (by omega)
  have f7 := f6.set (l := m.length + 2) (o := .dct (P.with z t).bk) (by omega)
  have hpl : PlanAt (m5.set (m.length + 2) (.dct (P.with z t).bk)) (m.length + 1) tp (m.length + 2) gl (P.with z t) := ⟨h6, f7.at hp.tex (by omega), .inl h6b, f7.at hp.gol (by omega)⟩
  generalize m5.set (m.length + 2) (.dct (P.with z t).bk) = m6 at s6 f7 hpl ⊢
  refine sp_made K U V M t41 (by omega) (O.with ht1) hpl fun q f pg' m7 hE hw hql _ => ?_
  exact hq t q f pg' m7 ht1 ht2 (s6.ext hE) (f7.trans (hE.frm j)) hw (by have := f7.1; omega)
end Sp
end

section
set_option Elab.async false
set_option linter.all false
set_option maxRecDepth 100000
set_option maxHeartbeats 4000000
/-! Wp9: what is right. -/
namespace Sp
open Mi
variable {T : Tab} {C D : Cl} {m : Mem} {Q : W → Mem → Prop} {n : Nat}
theorem cut_preW {A : Type} {xs : List A} {k : Nat} {i : Int} (h : i = k) (hk : k ≤ xs.length) : cut xs none (some i) = xs.take k := by
  subst h
  have h1 : ¬ ((k : Int) < 0) := by omega
  unfold cut cutIx
  simp [h1]
theorem st_dat : ∀ v : St, (toD m 19 (stW v)).isSome = true
  | none => rfl
  | some ((r, c), t) => rfl
theorem sts_dat (l : List St) : (optL (toD m 19) (l.map stW)).isSome = true := optL_isSome fun a ha => by
  obtain ⟨v, _, rfl⟩ := List.mem_map.mp ha
  exact st_dat v
theorem com_dat {o : Wo} {l : List St} {k : Nat} : (optL (toD m 19) (comL o l k)).isSome = true := optL_isSome fun a ha => by
  obtain ⟨i, p, q, z, _, _, _, _, rfl⟩ := comL_mem ha
  rfl
theorem eqW_cons_nil {k l : Nat} {w : W} {ws : List W} (h : m[k]? = some (.lst (w :: ws))) (g : m[l]? = some (.lst [])) (hd : (optL (toD m 19) (w :: ws)).isSome = true) : eqW m (.obj k) (.obj l) = some false := by
  obtain ⟨ds, hd⟩ := Option.isSome_iff_exists.mp hd
  have e1 : toD m DD (.obj k) = some (.list ds) := by
    show toD m (19 + 1) (.obj k) = _
    simp only [toD, h, hd, Option.map_some]
  have e2 : toD m DD (.obj l) = some (.list []) := by
    show toD m (19 + 1) (.obj l) = _
    simp only [toD, g, optL, Option.map_some]
  have e3 : ∃ d ds', ds = d :: ds' := by
    simp only [optL] at hd
    split at hd
    · cases hd; exact ⟨_, _, rfl⟩
    · cases hd
  obtain ⟨d, ds', rfl⟩ := e3
  simp only [eqW, e1, e2]
  simp [PySem.PyData.eqv, PySem.PyData.eqvAll]
theorem eqW_st {r c r' c' : Int} {t t' : Tx} : eqW m (.tup [.tup [.int r, .int c], .str t]) (.tup [.tup [.int r', .int c'], .str t']) = some ((decide (r = r') && decide (c = c')) && decide (t = t')) := by
  have h := eqv_sx (x := t) (y := t')
  simp only [PySem.PyData.eqv] at h
  have b : ∀ a b : Int, (a == b) = decide (a = b) := fun a b => by rw [Bool.eq_iff_iff]; simp
  simp [eqW, DD, toD, optL, PySem.PyData.eqv, PySem.PyData.eqvAll, h, b]
structure RgOk (T : Tab) (D : Cl) : Prop where
  t44 : T.fn 44 = some MB.b44_right
theorem bt_dat : ∀ {ws : List W} {z : Char}, (optL (toD m 19) (ws.filterMap (bt z))).isSome = true := optL_isSome fun a ha => by
  obtain ⟨v, _, e⟩ := List.mem_filterMap.mp ha
  unfold bt at e
  split at e
  · split at e
    · cases e; rfl
    · cases e
  · cases e
theorem sp_beats (K : FlOk T C) (U : TuOk T) (V : WoOk T D) (hn : 11 ≤ n) {p f pg : Nat} {o : Wo} {bk : List (W × W)} {goals opening : W} {s0 : St} (O : o.Ok bk) (hw : WdAt m p f pg o bk goals opening s0) (hs : okSt o s0) {x : Tx} (hx : ∀ c ∈ x, c ∈ urdl) (hz : x.length ≤ 100000) {z : Char} {e : Env} (e0 : e[0]? = some (some (.obj p))) (e2 : e[2]? = some (some (.str [z]))) (e3 : e[3]? = some (some (.str x))) (e9 : e.length = 12)
    (hq : ∀ l a q m', Run o s0 x l a → Ext m m' → m'[q]? = some (.lst ((comL o l x.length).filterMap (bt z))) → Q (.obj q) m') : Rwp (ev T (callN T n) (.lc [9, 10] (.var 9) (.tp (.cons (.nm 9) (.cons (.nm 10) .nil))) (.ex (.meth 11 (.var 0) (.cons (.var 3) .nil))) (.cons (.cmp .eq (.var 10) (.var 2)) .nil)) e m) Q := by
  rw [w_lc]
  simp [w_meth, e0, e3, hw.at_, V.c, V.m11]
  refine sp_comings K U V hn O hw hs hx hz fun l a q m1 hr hE hl => ?_
  simp [srcOf, hl]
  have hcl := comL_len o l x.length
  refine lc_pure (ws := comL o l x.length) (bt z) (by rw [len_lv hl]; omega) (by simp only [SL]; omega) (fun acc z => sees_lv (app_at hl)) (fun i w acc z' P hw2 hP => ?_) (fun z' => ?_)
  · obtain ⟨i', p', q', d, _, _, _, _, rfl⟩ := comL_mem (List.mem_of_getElem? hw2)
    have hP2 := hP z'
    generalize m1 ++ Ob.lst acc :: z' = M2 at hP2 ⊢
    have g9 : ∀ u, ((e.set 10 none).set 9 u)[9]? = some u := fun u => by
      rw [List.getElem?_set_self (by simp; omega)]
    have g10 : ∀ u v, (((e.set 10 none).set 9 u).set 10 v)[10]? = some v := fun u v => by
      rw [List.getElem?_set_self (by simp; omega)]
    unfold lcB1
    simp only [asgT, asgL, wipeE]
    simp [e2, g9, g10]
    simp only [bt] at hP2
    by_cases hd : d = z
    · simp [hd] at hP2 ⊢
      exact hP2
    · simp [hd] at hP2 ⊢
      exact hP2
  · exact hq l a _ _ hr (hE.trans ⟨_, rfl⟩) app_new
theorem sp_till (K : FlOk T C) (U : TuOk T) (V : WoOk T D) (hn : 11 ≤ n) {p f pg v : Nat} {o : Wo} {bk : List (W × W)} {goals opening : W} {s0 : St} (O : o.Ok bk) (hw : WdAt m p f pg o bk goals opening s0) (hs : okSt o s0) {x : Tx} (hx : ∀ c ∈ x, c ∈ urdl) (hz : x.length ≤ 100000) {j : Nat} {e : Env} (ev : e[v]? = some (some (.obj p))) (hv : v ≠ 11) (e7 : e[7]? = some (some (.int (j : Nat)))) (e3 : e[3]? = some (some (.str x))) (e9 : e.length = 12)
    (hq : ∀ l a q m', Run o s0 x l a → Ext m m' → m'[q]? = some (.lst ((comL o l x.length).filterMap (le1 j))) → Q (.obj q) m') : Rwp (Mi.ev T (callN T n) (.lc [11] (.var 11) (.nm 11) (.ex (.meth 11 (.var v) (.cons (.var 3) .nil))) (.cons (.cmp .le (.idx (.var 11) (.int 0)) (.var 7)) .nil)) e m) Q := by
  rw [w_lc]
  simp [w_meth, ev, e3, hw.at_, V.c, V.m11]
  refine sp_comings K U V hn O hw hs hx hz fun l a q m1 hr hE hl => ?_
  simp [srcOf, hl]
  have hcl := comL_len o l x.length
  refine lc_pure (ws := comL o l x.length) (le1 j) (by rw [len_lv hl]; omega) (by simp only [SL]; omega) (fun acc z => sees_lv (app_at hl)) (fun i w acc z' P hw2 hP => ?_) (fun z' => ?_)
  · obtain ⟨i', p', q', d, _, _, _, _, rfl⟩ := comL_mem (List.mem_of_getElem? hw2)
    have hP2 := hP z'
    generalize m1 ++ Ob.lst acc :: z' = M2 at hP2 ⊢
    have g7 : ∀ u, (((e.set 11 none).set 11 u))[7]? = some (some (.int (j : Nat))) := fun u => by
      rw [List.getElem?_set_ne (by omega), List.getElem?_set_ne (by omega)]; exact e7
    have g11 : ∀ u, (((e.set 11 none).set 11 u))[11]? = some u := fun u => by
      rw [List.getElem?_set_self (by simp; omega)]
    have g11' : ∀ u, (e.set 11 u)[11]? = some u := fun u => by
      rw [List.getElem?_set_self (by omega)]
    have g7' : ∀ u, (e.set 11 u)[7]? = some (some (.int (j : Nat))) := fun u => by
      rw [List.getElem?_set_ne (by omega)]; exact e7
    unfold lcB1
    simp only [asgT, asgL, wipeE]
    simp [g7', g11', getI_nat]
    simp only [le1] at hP2
    by_cases hd : ((i' + 1 : Nat) : Int) ≤ j
    · have hd' : (i' : Int) + 1 ≤ j := by omega
      simp [hd'] at hP2 ⊢
      exact hP2
    · have hd' : ¬ (i' : Int) + 1 ≤ j := by omega
      simp [hd'] at hP2 ⊢
      exact hP2
  · exact hq l a _ _ hr (hE.trans ⟨_, rfl⟩) app_new
end Sp
end

section
set_option Elab.async false
set_option linter.all false
set_option maxRecDepth 100000
set_option maxHeartbeats 4000000
/-! Yp1: zip; a world made of a book or none, of wishes in a list or a tuple; begun. -/
namespace Mi
section
variable {T : Tab} {cl : Caller} {e : Env} {m : Mem} {Q : W → Mem → Prop}
@[simp] theorem wi_zip {l : CL} {P : Src → Mem → Prop} : Rwp (evI T cl (.zip l) e m) P = Rwp (evL T cl l e m) fun ws m1 => match ws with
    | [w, u] => optP (srcOf m1 w) fun b => optP (srcOf m1 u) fun c => P (.zip b c) m1
    | _ => False := by
  rw [evI_zip]
  simp only [Rwp_bind]
  congr
  funext ws m1
  match ws with
  | [w, u] =>
    dsimp only
    cases srcOf m1 w with
    | none => rfl
    | some b => cases srcOf m1 u <;> rfl
  | [] => rfl
  | [_] => rfl
  | _ :: _ :: _ :: _ => rfl
def zipW (xs ys : List W) : List W := List.zipWith (fun w u => .tup [w, u]) xs ys
theorem sees_zip {b c : Bs} {xs ys : List W} (h1 : (Src.one b).sees m xs) (h2 : (Src.one c).sees m ys) : (Src.zip b c).sees m (zipW xs ys) := fun i => by
  have a1 : b.at i m = some xs[i]? := h1 i
  have a2 : c.at i m = some ys[i]? := h2 i
  simp only [Src.at, a1, a2, zipW, List.getElem?_zipWith]
  cases xs[i]? with
  | none => cases ys[i]? <;> rfl
  | some x => cases ys[i]? <;> rfl
theorem zipW_len {xs ys : List W} : (zipW xs ys).length = min xs.length ys.length := by simp [zipW]
end
end Mi
namespace Sp
open Mi
variable {T : Tab} {C D : Cl} {m : Mem} {Q : W → Mem → Prop} {n : Nat}
/-- wishes in a list or a tuple -/
def Wish (m : Mem) (v : W) (gs : List W) : Prop := (∃ gl, v = .obj gl ∧ m[gl]? = some (.lst gs)) ∨ v = .tup gs
theorem Wish.keep {v : W} {gs : List W} {m' : Mem} (h : Wish m v gs) (k : Keep m m') : Wish m' v gs := h.imp (fun ⟨gl, e, g⟩ => ⟨gl, e, k _ _ g⟩) id
/-- a book, or none -/
def Book (m : Mem) (v : W) (Ts : List Tx) (β : Char → Tx) : Prop := (∃ pg, v = .obj pg ∧ m[pg]? = some (.dct (bookW (lettersOf Ts) β))) ∨ (v = .non ∧ ∀ c, β c = urdl)
theorem Book.keep {v : W} {Ts : List Tx} {β : Char → Tx} {m' : Mem} (h : Book m v Ts β) (k : Keep m m') : Book m' v Ts β := h.imp (fun ⟨gl, e, g⟩ => ⟨gl, e, k _ _ g⟩) id
theorem sp_wishesT (K : FlOk T C) (M : WmOk T C D) (hn : 5 ≤ n) {f h w : Nat} {Ts : List Tx} {gs : List W} (F : Fl Ts h w) (ha : FlAt m f Ts) (G : GoalOk h w gs) (hq : ∀ m', Ext m m' → Q (.bl true) m') : Rwp (callN T n 36 [.obj f, .tup gs] m) Q := by
  obtain ⟨n, rfl⟩ : ∃ k, n = k + 1 := ⟨n - 1, by omega⟩
  refine call_wp M.t36 rfl ?_
  have e1 : isiW m (.tup gs) [.list, .tuple] = .ok (.bl true) m := by
    simp [isiW, optL, kdW, ofO]
  have hgl := G.len
  simp [MB.b36_are_wishes, e1]
  rw [w_lc]
  simp [srcOf]
  refine lc_pure (ws := gs) (fun _ => some (.bl true)) (by simp [Src.len, Bs.len]) (by simp only [SL]; omega) (fun acc z => sees_st) (fun i x acc z P hx hP => ?_) (fun z => ?_)
  · obtain ⟨r, c, rfl, hr, hc⟩ := G.pl x (List.mem_of_getElem? hx)
    have ha2 : FlAt (m ++ Ob.lst acc :: z) f Ts := app_at ha
    have hP2 := hP z
    generalize m ++ Ob.lst acc :: z = M2 at ha2 hP2 ⊢
    have ha3 := ha2
    unfold FlAt at ha3
    unfold lcB1
    simp [asgT, wipeE, w_meth, ha3, K.c, K.m3]
    refine sp_has K (by omega) F ha2 ?_
    have hi : Ins h w (r : Int) (c : Int) := ⟨by omega, by omega⟩
    simp [hi]
    exact hP2
  · have hu : ∀ u ∈ gs.filterMap (fun _ => some (W.bl true)), u = .bl true := fun u hu => by
      obtain ⟨_, _, e⟩ := List.mem_filterMap.mp hu
      exact (Option.some.inj e).symm
    generalize gs.filterMap (fun _ => some (W.bl true)) = L at hu ⊢
    rw [r_all app_new hu]
    simp [lsetW, seqW, G.set F.h1 F.w1, dedup_id G.nd, cmpop, eqW_int, Rwp_ofO]
    exact hq _ ⟨_, rfl⟩
theorem sp_wishes (K : FlOk T C) (M : WmOk T C D) (hn : 5 ≤ n) {f h w : Nat} {v : W} {Ts : List Tx} {gs : List W} (F : Fl Ts h w) (ha : FlAt m f Ts) (hg : Wish m v gs) (G : GoalOk h w gs) (hq : ∀ m', Ext m m' → Q (.bl true) m') : Rwp (callN T n 36 [.obj f, v] m) Q := by
  rcases hg with ⟨gl, rfl, hg⟩ | rfl
  · exact sp_arewishes K M hn F ha hg G hq
  · exact sp_wishesT K M hn F ha G hq
theorem sp_book (K : FlOk T C) (U : TuOk T) (V : WoOk T D) (M : WmOk T C D) (hn : 2 ≤ n) {f h w : Nat} {v : W} {Ts : List Tx} {β : Char → Tx} (F : Fl Ts h w) (ha : FlAt m f Ts) (hp : Book m v Ts β) (hβ : ∀ l ∈ lettersOf Ts, β l ∈ turnsX) (hq : ∀ m', Ext m m' → Q (.bl true) m') : Rwp (callN T n 38 [.obj f, v] m) Q := by
  rcases hp with ⟨pg, rfl, hp⟩ | ⟨rfl, _⟩
  · exact sp_isbook K U V M hn F ha hp (by simp [bookW]) (fun l hl => ⟨book_get hl, hβ l hl⟩) hq
  · obtain ⟨n, rfl⟩ : ∃ k, n = k + 1 := ⟨n - 1, by omega⟩
    refine call_wp M.t38 rfl ?_
    simp [MB.b38_is_book, isNon]
    exact hq m (Ext.refl m)
theorem sp_firstwrongG (K : FlOk T C) (U : TuOk T) (V : WoOk T D) (M : WmOk T C D) (hn : 8 ≤ n) {f h w : Nat} {bk wi : W} {Ts : List Tx} {β : Char → Tx} {gs : List W} {r c : Int} {t : Tx} (F : Fl Ts h w) (ha : FlAt m f Ts) (hb : W.tup [.int r, .int c] ∈ openW Ts h w) (ht : t ∈ turnsX) (hp : Book m bk Ts β) (hβ : ∀ l ∈ lettersOf Ts, β l ∈ turnsX) (hg : Wish m wi gs) (G : GoalOk h w gs)
    (hq : ∀ m', Ext m m' → Q .non m') : Rwp (callN T n 39 [.obj f, .tup [.int r, .int c], .str t, bk, wi] m) Q := by
  obtain ⟨n, rfl⟩ : ∃ k, n = k + 1 := ⟨n - 1, by omega⟩
  refine call_wp M.t39 rfl ?_
  have ha' := ha
  unfold FlAt at ha'
  have hk : kdW m (.cls 0) (.obj f) = some true := by simp [kdW, ha']
  obtain ⟨r', c', hr, hc, e⟩ := all_mem.mp (List.mem_filter.mp hb).1
  simp only [W.tup.injEq, List.cons.injEq, W.int.injEq, and_true] at e
  obtain ⟨rfl, rfl⟩ := e
  have hi : Ins h w (r' : Int) (c' : Int) := ⟨by omega, by omega⟩
  simp [MB.b39_first_wrong, r_isi hk, w_meth, ha', K.c, K.m3, M.m7]
  refine sp_has K (by omega) F ha ?_
  simp [hi, w_meth, ha', K.c, K.m3, M.m7]
  refine sp_open K M.t35 M.t34 M.m8 (by omega) F ha fun q m1 hE hml hl => ?_
  have hin : inW m1 (.tup [.int r', .int c']) (.obj q) = some true := by
    simp only [inW, dctAt_lst hl, seqW_lst hl]
    exact inL_mem hb open_dat
  simp [cmpop, hin]
  refine sp_isturn U (by omega) ht ?_
  simp
  refine sp_book K U V M (by omega) F (hE.at ha) (hp.keep hE.keep) hβ fun m2 hE2 => ?_
  simp
  refine sp_wishes K M (by omega) F (hE2.at (hE.at ha)) ((hg.keep hE.keep).keep hE2.keep) G fun m3 hE3 => ?_
  simp
  exact hq m3 ((hE.trans hE2).trans hE3)
theorem r_sortedW {v : W} {gs : List W} {h w : Nat} (hg : Wish m v gs) (G : GoalOk h w gs) (hh : h ≤ 1000) (hw : w ≤ 1000) : Rwp (bltW .sorted [v] m) Q = Q (.obj m.length) (m ++ [.lst (srtB codeW gs)]) := by
  rcases hg with ⟨gl, rfl, hg⟩ | rfl
  · simp only [bltW, isLst, hg, G.srt hh hw, if_true]
    rfl
  · simp only [bltW, isLst, G.set hh hw, if_true]
    rfl
theorem goal_srt {h w : Nat} {gs : List W} (G : GoalOk h w gs) : GoalOk h w (srtB codeW gs) :=
  ⟨fun v hv => G.pl v ((srtB_perm _).mem_iff.mp hv), ((srtB_perm (f := codeW) gs).pairwise_iff (fun {x y} h => Ne.symm h)).mpr G.nd, by rw [(srtB_perm _).length_eq]; exact G.len⟩
theorem sp_worldG (K : FlOk T C) (U : TuOk T) (V : WoOk T D) (M : WmOk T C D) (hn : 9 ≤ n) {f h w : Nat} {bk wi : W} {Ts : List Tx} {β : Char → Tx} {gs : List W} {r c : Int} {t : Tx} (F : Fl Ts h w) (ha : FlAt m f Ts) (hb : W.tup [.int r, .int c] ∈ openW Ts h w) (ht : t ∈ turnsX) (hp : Book m bk Ts β) (hβ : ∀ l ∈ lettersOf Ts, β l ∈ turnsX) (hg : Wish m wi gs) (G : GoalOk h w gs)
    (hq : ∀ z pg', m.length ≤ pg' → (m ++ .ins 1 (wdF f pg' (.tup (srtB codeW gs)) (.tup [.int r, .int c]) (some ((r, c), t))) :: z)[pg']? = some (.dct (bookW (lettersOf Ts) β)) → Q .non (m ++ .ins 1 (wdF f pg' (.tup (srtB codeW gs)) (.tup [.int r, .int c]) (some ((r, c), t))) :: z)) : Rwp (callN T n 40 [.obj m.length, .obj f, .tup [.int r, .int c], .str t, bk, wi] (m ++ [.ins 1 []])) Q := by
  obtain ⟨n, rfl⟩ : ∃ k, n = k + 1 := ⟨n - 1, by omega⟩
  refine call_wp M.t40 rfl ?_
  simp [MB.b40_World__init]
  have kp : ∀ z : Mem, Keep m (m ++ z) := fun z => Ext.keep ⟨z, rfl⟩
  refine sp_firstwrongG K U V M (by omega) F (app_at ha) hb ht (hp.keep (kp _)) hβ (hg.keep (kp _)) G fun m1 hE => ?_
  obtain ⟨z, rfl⟩ := hE
  have e1 : m ++ [Ob.ins 1 []] ++ z = m ++ .ins 1 [] :: z := by simp
  rw [e1]
  have hset : ∀ z o o', (m ++ o :: z).set m.length o' = m ++ o' :: z := fun z o o' => by
    rw [List.set_append_right _ _ (Nat.le_refl _)]
    simp
  have hat : ∀ (o : Ob) (z : Mem), (m ++ o :: z)[m.length]? = some o := fun o z => app_new
  simp [isNon]
  rw [r_fldW (hat _ _) (by simp)]
  simp only [optP_some, hset, putA]
  rw [w_dc]
  have ha1 : FlAt (m ++ .ins 1 [(5, .obj f)] :: z) f Ts := app_at ha
  have ha1' := ha1
  unfold FlAt at ha1'
  simp [w_meth, ha1', K.c, M.m10]
  refine sp_letters K V M (by omega) F ha1 fun m2 hE2 => ?_
  obtain ⟨zz, rfl⟩ : ∃ zz, m2 = m ++ .ins 1 [(5, .obj f)] :: zz := by
    obtain ⟨z2, rfl⟩ := hE2
    exact ⟨z ++ z2, by simp⟩
  have hle := letters_le Ts
  have hpM : Book (m ++ .ins 1 [(5, .obj f)] :: zz) bk Ts β := hp.keep (kp _)
  have hgM : ∀ zz o, Wish (m ++ o :: zz) wi gs := fun zz o => hg.keep (kp _)
  have hsM : ∀ z3 o', (m ++ .ins 1 [(5, .obj f)] :: zz ++ z3).set m.length o' = m ++ o' :: (zz ++ z3) := fun z3 o' => by rw [List.append_assoc, List.cons_append, hset]
  have hat2 : (m ++ .ins 1 [(5, .obj f)] :: zz)[m.length]? = some (.ins 1 [(5, .obj f)]) := app_new
  have hlt := lt_of_at hat2
  have hnew : ∀ o o' z3, (m ++ o' :: (zz ++ o :: z3))[(m ++ .ins 1 [(5, .obj f)] :: zz).length]? = some o := fun o o' z3 => by
    rw [show m ++ o' :: (zz ++ o :: z3) = (m ++ o' :: zz) ++ o :: z3 by simp, show (m ++ Ob.ins 1 [(5, .obj f)] :: zz).length = (m ++ o' :: zz).length by simp]
    exact app_new
  generalize m ++ .ins 1 [(5, .obj f)] :: zz = M2 at hpM hsM hat2 hlt hnew ⊢
  simp [srcOf]
  refine dc_pure (ws := (lettersOf Ts).map fun c => W.str [c]) (fun v => match v with | .str [c] => some (.str [c], .str (β c)) | _ => none) (by simp [Src.len, Bs.len]) (by simp only [SL, List.length_map]; omega) (fun acc z => sees_st) (fun i x acc z P hx hP => ?_) (fun x p hx e => ?_) (fun z3 => ?_)
  · obtain ⟨d, hd, rfl⟩ := List.mem_map.mp (List.mem_of_getElem? hx)
    have hp2 : Book (M2 ++ Ob.dct acc :: z) bk Ts β := hpM.keep (Ext.keep ⟨_, rfl⟩)
    have hP2 := hP z
    generalize M2 ++ Ob.dct acc :: z = M3 at hp2 hP2 ⊢
    unfold dcB1
    simp [asgT, wipeE]
    rcases hp2 with ⟨pg, rfl, hp2⟩ | ⟨rfl, he⟩
    · simp [isNon]
      rw [r_idxD hp2 rfl, book_get hd]
      simp
      exact hP2
    · simp [isNon, U.g6]
      have e : β d = urdl := he d
      rw [← e]
      exact hP2
  · obtain ⟨d, hd, rfl⟩ := List.mem_map.mp hx
    simp at e
    rw [← e]
    rfl
  · have e5 : ((lettersOf Ts).map fun c => W.str [c]).filterMap (fun v => match v with | .str [c] => some (W.str [c], W.str (β c)) | _ => none) = bookW (lettersOf Ts) β := by
      rw [List.filterMap_map]
      unfold bookW
      generalize lettersOf Ts = l
      clear hle
      induction l with
      | nil => rfl
      | cons a l ih => simpa using ih
    rw [e5, merge_nodup (letters_nodup Ts) (fun _ _ => rfl), List.nil_append]
    have hat3 : (M2 ++ .dct (bookW (lettersOf Ts) β) :: z3)[m.length]? = some (.ins 1 [(5, .obj f)]) := app_at hat2
    rw [r_fldW hat3 (by simp)]
    simp only [optP_some, hsM, putA]
    have hg3 := hgM (zz ++ .dct (bookW (lettersOf Ts) β) :: z3) (.ins 1 [(5, .obj f), (4, .obj M2.length)])
    rw [if_neg (by decide)]
    rw [r_sortedW hg3 G F.h1 F.w1]
    simp [bltW, seqW]
    have hq2 := hq (zz ++ .dct (bookW (lettersOf Ts) β) :: z3 ++ [.lst (srtB codeW gs)]) M2.length
    have hn2 := hnew (.dct (bookW (lettersOf Ts) β)) (.ins 1 (wdF f M2.length (.tup (srtB codeW gs)) (.tup [.int r, .int c]) (some ((r, c), t)))) (z3 ++ [.lst (srtB codeW gs)])
    have e6 : m ++ Ob.ins 1 [(5, W.obj f), (4, W.obj M2.length)] :: (zz ++ Ob.dct (bookW (lettersOf Ts) β) :: (z3 ++ [Ob.lst (srtB codeW gs)])) = m ++ Ob.ins 1 [(5, W.obj f), (4, W.obj M2.length)] :: (zz ++ Ob.dct (bookW (lettersOf Ts) β) :: z3 ++ [Ob.lst (srtB codeW gs)]) := by simp
    rw [e6]
    rw [show zz ++ Ob.dct (bookW (lettersOf Ts) β) :: (z3 ++ [Ob.lst (srtB codeW gs)]) = zz ++ Ob.dct (bookW (lettersOf Ts) β) :: z3 ++ [Ob.lst (srtB codeW gs)] by simp] at hn2
    generalize zz ++ Ob.dct (bookW (lettersOf Ts) β) :: z3 ++ [Ob.lst (srtB codeW gs)] = Z at hq2 hn2 ⊢
    rw [r_fldW (hat _ _) (by simp [putA])]
    simp only [optP_some, hset, putA]
    rw [r_fldW (hat _ _) (by simp [putA])]
    simp only [optP_some, hset, putA]
    rw [r_fldW (hat _ _) (by simp [putA])]
    simp only [optP_some, hset, putA]
    exact hq2 (by omega) hn2
end Sp
end

section
set_option Elab.async false
set_option linter.all false
set_option maxRecDepth 100000
set_option maxHeartbeats 4000000
/-! Wp10: what is right. -/
namespace Sp
open Mi
variable {T : Tab} {C D : Cl} {m : Mem} {Q : W → Mem → Prop} {n : Nat}
theorem pos_take {l l' : List St} {k : Nat} (h : ∀ i, i ≤ k → l[i]? = l'[i]?) : l.take (k + 1) = l'.take (k + 1) := by
  refine List.ext_getElem? fun i => ?_
  by_cases hi : i < k + 1
  · rw [List.getElem?_take_of_lt hi, List.getElem?_take_of_lt hi, h i (by omega)]
  · rw [List.getElem?_eq_none (by simp; omega), List.getElem?_eq_none (by simp; omega)]
theorem okSt_twin {o o' : Wo} {z : Char} (U : Twin o o' z) {s : St} (h : okSt o s) : okSt o' s := by
  cases s with
  | none => trivial
  | some s =>
    obtain ⟨⟨r, c⟩, t⟩ := s
    obtain ⟨h1, h2⟩ := h
    exact ⟨by rw [← U.ts, ← U.h, ← U.w]; exact h1, h2⟩
theorem sp_right (K : FlOk T C) (U : TuOk T) (V : WoOk T D) (hT : T.fn 44 = some MB.b44_right) (hn : 12 ≤ n) {p f pg p' f' pg' : Nat} {o o' : Wo} {bk bk' : List (W × W)} {goals opening goals' opening' : W} {s0 : St} {z : Char} (O : o.Ok bk) (O' : o'.Ok bk') (Z : Twin o o' z) (hβ : o.β z ≠ o'.β z) (hw : WdAt m p f pg o bk goals opening s0) (hw' : WdAt m p' f' pg' o' bk' goals' opening' s0) (hs : okSt o s0) {x : Tx} (hx : ∀ c ∈ x, c ∈ urdl) (hz : x.length ≤ 1000)
    (hq : ∀ m', Ext m m' → Q (.bl true) m') : Rwp (callN T n 44 [.obj p, .obj p', .str [z], .str x] m) Q := by
  obtain ⟨n, rfl⟩ : ∃ k, n = k + 1 := ⟨n - 1, by omega⟩
  refine call_wp hT rfl ?_
  have hs' := okSt_twin Z hs
  simp [MB.b44_right, w_meth, hw.at_, V.c, V.m9]
  refine sp_walk K U V (by omega) O hw hs hx (by omega) fun l a q1 m1 hr hE1 hl1 => ?_
  have hw1' := hw'.keep hE1.keep
  simp [hw1'.at_, V.c, V.m9]
  refine sp_walk K U V (by omega) O' hw1' hs' hx (by omega) fun l' a' q2 m2 hr' hE2 hl2 => ?_
  have hl1b := hE2.at hl1
  have hw2 := hw.keep (hE1.trans hE2).keep
  have hw2' := hw'.keep (hE1.trans hE2).keep
  have hEE := hE1.trans hE2
  clear hE1 hE2 hw1' hl1
  refine sp_beats K U V (by omega) O hw2 hs hx (by omega) rfl rfl rfl rfl fun l3 a3 q3 m3 hr3 hE3 hl3 => ?_
  obtain ⟨rfl, rfl⟩ := hr.uniq O hr3
  have hl1c := hE3.at hl1b
  have hl2c := hE3.at hl2
  have hw3 := hw2.keep hE3.keep
  have hw3' := hw2'.keep hE3.keep
  have hE4 := hEE.trans hE3
  clear hE3 hl1b hl2 hw2 hw2' hr3
  have len1 := hr.len
  have len2 := hr'.len
  have hn0 : (m3 ++ [Ob.lst []])[m3.length]? = some (.lst []) := app_new
  have hl3n : (m3 ++ [Ob.lst []])[q3]? = some (.lst ((comL o l x.length).filterMap (bt z))) := app_at hl3
  have hbd := bt_dat (m := m3 ++ [Ob.lst []]) (ws := comL o l x.length) (z := z)
  rcases beats_cases (o := o) (z := z) (l := l) x.length (by omega) with ⟨h1, h2⟩ | ⟨j, ws, pp, qq, h1, h2, h3, h4, h5, h6⟩
  · -- no coming to the letter
    rw [h1] at hl3n
    have el := run_same (bk := bk) Z O' hr hr' h2
    subst el
    simp [cmpop, eqW_nil hl3n hn0]
    have hl1d : (m3 ++ [Ob.lst []])[q1]? = some (.lst (l.map stW)) := app_at hl1c
    have hl2d : (m3 ++ [Ob.lst []])[q2]? = some (.lst (l.map stW)) := app_at hl2c
    simp [eqW_lsts hl1d hl2d (sts_dat l)]
    have hw4 : WdAt (m3 ++ [Ob.lst []]) p f pg o bk goals opening s0 := hw3.keep (Ext.keep ⟨_, rfl⟩)
    have hw4' : WdAt (m3 ++ [Ob.lst []]) p' f' pg' o' bk' goals' opening' s0 := hw3'.keep (Ext.keep ⟨_, rfl⟩)
    have hE5 : Ext m (m3 ++ [Ob.lst []]) := hE4.app
    generalize m3 ++ [Ob.lst []] = m4 at hw4 hw4' hE5 ⊢
    simp [hw4.at_, V.c, V.m11, w_meth]
    refine sp_comings K U V (by omega) O hw4 hs hx (by omega) fun l5 a5 q5 m5 hr5 hE6 hl5 => ?_
    obtain ⟨rfl, _⟩ := hr.uniq O hr5
    have hw5' := hw4'.keep hE6.keep
    simp [hw5'.at_, V.c, V.m11]
    refine sp_comings K U V (by omega) O' hw5' hs' hx (by omega) fun l6 a6 q6 m6 hr6 hE7 hl6 => ?_
    obtain ⟨e6, _⟩ := hr'.uniq O' hr6
    subst e6
    have ec : comL o' l x.length = comL o l x.length := comL_congr Z.ts.symm Z.h.symm Z.w.symm fun _ _ => rfl
    rw [ec] at hl6
    simp [eqW_lsts (hE7.at hl5) hl6 com_dat]
    exact hq m6 ((hE5.trans hE6).trans hE7)
  · obtain ⟨u1, r, c, t, t', u2, u3, u4⟩ := run_first Z O O' hr hr' hs hβ h3 h4 h5 h6
    have hpt := pos_take u1
    rw [h1] at hl3n hbd
    simp [cmpop, eqW_cons_nil hl3n hn0 hbd]
    have hl1d : (m3 ++ [Ob.lst []])[q1]? = some (.lst (l.map stW)) := app_at hl1c
    have hl2d : (m3 ++ [Ob.lst []])[q2]? = some (.lst (l'.map stW)) := app_at hl2c
    have hw4 : WdAt (m3 ++ [Ob.lst []]) p f pg o bk goals opening s0 := hw3.keep (Ext.keep ⟨_, rfl⟩)
    have hw4' : WdAt (m3 ++ [Ob.lst []]) p' f' pg' o' bk' goals' opening' s0 := hw3'.keep (Ext.keep ⟨_, rfl⟩)
    have hE5 : Ext m (m3 ++ [Ob.lst []]) := hE4.app
    generalize m3 ++ [Ob.lst []] = m4 at hw4 hw4' hE5 hl1d hl2d hl3n ⊢
    rw [r_idxL hl3n, getI_nat (by omega)]
    simp [w_slc, CE.isN, part]
    have hj1 : ((j : Int) + 1) = (j + 1 : Nat) := by omega
    rw [r_slcL hl1d, cut_preW (k := j + 1) hj1 (by simp; omega)]
    have hl2e : (m4 ++ [Ob.lst ((l.map stW).take (j + 1))])[q2]? = some (.lst (l'.map stW)) := app_at hl2d
    rw [r_slcL hl2e, cut_preW (k := j + 1) hj1 (by simp; omega)]
    have et : (l'.map stW).take (j + 1) = (l.map stW).take (j + 1) := by rw [← List.map_take, ← List.map_take, hpt]
    rw [et]
    have hc1 : (m4 ++ [Ob.lst ((l.map stW).take (j + 1))] ++ [Ob.lst ((l.map stW).take (j + 1))])[m4.length]? = some (.lst ((l.map stW).take (j + 1))) := app_at app_new
    have hc2 : (m4 ++ [Ob.lst ((l.map stW).take (j + 1))] ++ [Ob.lst ((l.map stW).take (j + 1))])[(m4 ++ [Ob.lst ((l.map stW).take (j + 1))]).length]? = some (.lst ((l.map stW).take (j + 1))) := app_new
    have hcd : (optL (toD (m4 ++ [Ob.lst ((l.map stW).take (j + 1))] ++ [Ob.lst ((l.map stW).take (j + 1))]) 19) ((l.map stW).take (j + 1))).isSome = true := by rw [← List.map_take]; exact sts_dat _
    rw [eqW_lsts hc1 hc2 hcd]
    have hl1f : (m4 ++ [Ob.lst ((l.map stW).take (j + 1))] ++ [Ob.lst ((l.map stW).take (j + 1))])[q1]? = some (.lst (l.map stW)) := app_at (app_at hl1d)
    have hl2f : (m4 ++ [Ob.lst ((l.map stW).take (j + 1))] ++ [Ob.lst ((l.map stW).take (j + 1))])[q2]? = some (.lst (l'.map stW)) := app_at hl2e
    have hw5 := (hw4.keep (Ext.keep (m' := m4 ++ [Ob.lst ((l.map stW).take (j + 1))]) ⟨_, rfl⟩)).keep (Ext.keep (m' := m4 ++ [Ob.lst ((l.map stW).take (j + 1))] ++ [Ob.lst ((l.map stW).take (j + 1))]) ⟨_, rfl⟩)
    have hw5' := (hw4'.keep (Ext.keep (m' := m4 ++ [Ob.lst ((l.map stW).take (j + 1))]) ⟨_, rfl⟩)).keep (Ext.keep (m' := m4 ++ [Ob.lst ((l.map stW).take (j + 1))] ++ [Ob.lst ((l.map stW).take (j + 1))]) ⟨_, rfl⟩)
    have hE6 : Ext m (m4 ++ [Ob.lst ((l.map stW).take (j + 1))] ++ [Ob.lst ((l.map stW).take (j + 1))]) := hE5.app.app
    generalize m4 ++ [Ob.lst ((l.map stW).take (j + 1))] ++ [Ob.lst ((l.map stW).take (j + 1))] = m5 at hl1f hl2f hw5 hw5' hE6 ⊢
    have g1 : getI (l.map stW) ((j : Int) + 1) = some (.tup [.tup [.int r, .int c], .str t]) := by
      rw [getI_nat (by omega), show ((j : Int) + 1).toNat = j + 1 by omega, List.getElem?_map, u2] <;> rfl
    have g2 : getI (l'.map stW) ((j : Int) + 1) = some (.tup [.tup [.int r, .int c], .str t']) := by
      rw [getI_nat (by omega), show ((j : Int) + 1).toNat = j + 1 by omega, List.getElem?_map, u3] <;> rfl
    simp [r_idxL hl1f, r_idxL hl2f, g1, g2, eqW_st, u4, getI_nat, eqW_tup2]
    refine sp_till (v := 0) (j := j + 1) K U V (by omega) O hw5 hs hx (by omega) rfl (by omega) (by simp) rfl rfl fun l6 a6 q6 m6 hr6 hE7 hl6 => ?_
    obtain ⟨e6, _⟩ := hr.uniq O hr6
    subst e6
    have hw6' := hw5'.keep hE7.keep
    refine sp_till (v := 1) (j := j + 1) K U V (by omega) O' hw6' hs' hx (by omega) rfl (by omega) (by simp) rfl rfl fun l7 a7 q7 m7 hr7 hE8 hl7 => ?_
    obtain ⟨e7, _⟩ := hr'.uniq O' hr7
    subst e7
    rw [comL_le (o := o) (l := l) x.length (by omega) (by omega)] at hl6
    rw [comL_le (o := o') (l := l') x.length (by omega) (by omega)] at hl7
    have ec : comL o' l' (j + 1) = comL o l (j + 1) := comL_congr Z.ts.symm Z.h.symm Z.w.symm fun i hi => by
      by_cases hij : i ≤ j
      · rw [u1 i hij]
      · have : i = j + 1 := by omega
        subst this
        rw [u2, u3]
        rfl
    rw [ec] at hl7
    rw [eqW_lsts (hE8.at hl6) hl7 com_dat]
    simp
    exact hq m7 ((hE6.trans hE7).trans hE8)
end Sp
end

section
set_option Elab.async false
set_option linter.all false
set_option maxRecDepth 100000
set_option maxHeartbeats 4000000
/-! Wp11: a plan. -/
namespace Sp
open Mi
variable {T : Tab} {C D : Cl} {m : Mem} {Q : W → Mem → Prop} {n : Nat}
theorem spot_cell {Ts : List Tx} {h w : Nat} (F : Fl Ts h w) {X : Tx} {v : W} (s : Spot Ts X v) : ∃ r c : Nat, v = .tup [.int r, .int c] ∧ r < h ∧ c < w ∧ subT [cell Ts h w r c] X = true := by
  obtain ⟨r, c, t, ch, rfl, h1, h2, h3⟩ := s
  have hl := F.len
  have hr := (List.getElem?_eq_some_iff.mp h1).1
  have hc := (List.getElem?_eq_some_iff.mp h2).1
  have g := F.row t (List.mem_of_getElem? h1)
  refine ⟨r, c, rfl, by omega, by omega, ?_⟩
  have i : Ins h w r c := ⟨by omega, by omega⟩
  have e : cell Ts h w r c = ch := by
    unfold cell
    rw [if_pos i]
    simp [h1, h2]
  rw [e]
  exact h3
theorem spot_open {Ts : List Tx} {h w : Nat} (F : Fl Ts h w) {v : W} (s : Spot Ts opX v) : v ∈ openW Ts h w ∧ ∃ r c : Int, v = .tup [.int r, .int c] := by
  obtain ⟨r, c, rfl, hr, hc, hs⟩ := spot_cell F s
  exact ⟨List.mem_filter.mpr ⟨all_mem.mpr ⟨r, c, hr, hc, rfl⟩, hs⟩, r, c, rfl⟩
theorem joinT_nil : ∀ l : List Tx, joinT [] l = l.flatten
  | [] => rfl
  | [x] => by simp [joinT]
  | x :: y :: r => by
    have ih := joinT_nil (y :: r)
    simp only [joinT] at ih ⊢
    rw [ih]
    simp
theorem r_join0 {p : Nat} {Ts : List Tx} (h : m[p]? = some (.lst (Ts.map W.str))) (hz : (Ts.map List.length).sum ≤ 16777216) : Rwp (bmW .join (.str []) [.obj p] m) Q = Q (.str Ts.flatten) m := by
  have hs : (Ts.map List.length).sum + Ts.length * ([] : Tx).length ≤ 16777216 := by simpa using hz
  simp only [bmW, seqW_lst h, strL_map, if_pos hs, joinT_nil]
  rfl
theorem sum_le {b : Nat} : ∀ {l : List Tx}, (∀ t ∈ l, t.length ≤ b) → (l.map List.length).sum ≤ l.length * b
  | [], _ => by simp
  | t :: l, h => by
    have h1 := h t List.mem_cons_self
    have h2 := sum_le (l := l) fun u hu => h u (List.mem_cons_of_mem _ hu)
    simp only [List.map_cons, List.sum_cons, List.length_cons, Nat.succ_mul]
    omega
theorem fl_sum {Ts : List Tx} {h w : Nat} (F : Fl Ts h w) : (Ts.map List.length).sum ≤ 16777216 := by
  have h1 := sum_le (b := w) fun t ht => Nat.le_of_eq (F.row t ht).1
  have h2 := F.len
  have h3 : Ts.length * w ≤ 1000 * 1000 := Nat.mul_le_mul (by have := F.h1; omega) F.w1
  omega
theorem sub_flat {d : Char} {Ts : List Tx} : subT [d] Ts.flatten = Ts.any fun t => subT [d] t := by
  rw [sub_one, Bool.eq_iff_iff, decide_eq_true_eq, List.any_eq_true, List.mem_flatten]
  constructor
  · rintro ⟨t, ht, hd⟩
    exact ⟨t, ht, by rw [sub_one]; exact decide_eq_true hd⟩
  · rintro ⟨t, ht, hd⟩
    rw [sub_one] at hd
    exact ⟨t, ht, of_decide_eq_true hd⟩
/-- pairs of letters and turns -/
def pairW (l : Tx) (β : Char → Tx) : List W := l.map fun c => .tup [.str [c], .str (β c)]
theorem pairs_book {β : Char → Tx} : ∀ l : Tx, pairs2 (pairW l β) = some (bookW l β)
  | [] => rfl
  | c :: l => by
    have ih := pairs_book (β := β) l
    unfold pairs2 pairW bookW at ih ⊢
    simp only [List.map_cons, optL, ih]
    rfl
theorem r_dictP {k : Nat} {l : Tx} {β : Char → Tx} (h : m[k]? = some (.lst (pairW l β))) (hn : l.Nodup) : Rwp (bltW .dict1 [.obj k] m) Q = Q (.obj m.length) (m ++ [.dct (bookW l β)]) := by
  have e := merge_nodup (β := β) (acc := []) hn (fun _ _ => rfl)
  simp only [bltW, dctAt_lst h, isLst, h, pairs_book, e, List.nil_append]
  rfl
theorem pair_ext {β β' : Char → Tx} {l : Tx} (h : ∀ c ∈ l, β c = β' c) : pairW l β = pairW l β' := by
  unfold pairW
  exact List.map_congr_left fun c hc => by rw [h c hc]
theorem goal_ok {h w : Nat} {us : List W} (hl : us.length < 64) (hu : ∀ v ∈ us, ∃ r c : Nat, v = .tup [.int r, .int c] ∧ r < h ∧ c < w) : GoalOk h w (srtB codeW (dedupW us)) := by
  refine ⟨fun v hv => hu v (dedup_sub ((srtB_perm _).mem_iff.mp hv)), ?_, ?_⟩
  · exact ((srtB_perm (f := codeW) (dedupW us)).pairwise_iff (fun {x y} h => Ne.symm h)).mpr (dedup_nd us)
  · rw [(srtB_perm _).length_eq]
    have : ∀ l : List W, (dedupW l).length ≤ l.length := by
      intro l
      induction l with
      | nil => simp [dedupW]
      | cons a l ih =>
        unfold dedupW
        split
        · simp; omega
        · simp; omega
    have := this us
    omega
theorem set_ok {h w : Nat} {us : List W} (hh : h ≤ 1000) (hw : w ≤ 1000) (hl : us.length < 64) (hu : ∀ v ∈ us, ∃ r c : Nat, v = .tup [.int r, .int c] ∧ r < h ∧ c < w) : setOk us = true := by
  unfold setOk
  rw [Bool.and_eq_true, decide_eq_true_eq, List.all_eq_true]
  refine ⟨hl, fun v hv => ?_⟩
  obtain ⟨r, c, rfl, hr, hc⟩ := hu v hv
  simp [tupOk, tupI, intsW, optL, intW, SB]
  exact ⟨decide_eq_true (by omega), decide_eq_true (by omega)⟩
end Sp
end

section
set_option Elab.async false
set_option linter.all false
set_option maxRecDepth 100000
set_option maxHeartbeats 4000000
/-! Wp12: a plan. -/
namespace Sp
open Mi
variable {T : Tab} {C D : Cl} {m : Mem} {Q : W → Mem → Prop} {n : Nat}
def signsG : Tx := ['#', '.', '~', 'x', 'a', 'b', 'c', 'd']
/-- the letters so far -/
def ltrs (Ts : List Tx) (i : Nat) : Tx := (lettersX.take i).filter fun l => Ts.any fun t => subT [l] t
structure PagInv (Ts : List Tx) (j K : Nat) (m0 : Mem) (i : Nat) (acc : List W) (m' : Mem) : Prop where
  ex : ∃ β : Char → Tx, acc = pairW (ltrs Ts i) β ∧ ∀ l ∈ ltrs Ts i, β l ∈ turnsX
  src : SrcB m' j (K + i)
  frm : Frm m0 j m'
  at_ : m'[m0.length]? = some (.lst acc)
theorem ltrs_succ {Ts : List Tx} {i : Nat} {d : Char} (h : lettersX[i]? = some d) : ltrs Ts (i + 1) = ltrs Ts i ++ if (Ts.any fun t => subT [d] t) = true then [d] else [] := by
  unfold ltrs
  rw [List.take_add_one, h, List.filter_append]
  congr 1
  simp only [Option.toList, List.filter_cons, List.filter_nil]
theorem ltrs_new {Ts : List Tx} {i : Nat} {d : Char} (h : lettersX[i]? = some d) : d ∉ ltrs Ts i := by
  intro g
  have g := (List.mem_filter.mp g).1
  obtain ⟨k, hk⟩ := List.getElem?_of_mem g
  have hlt := (List.getElem?_eq_some_iff.mp hk).1
  simp only [List.length_take] at hlt
  rw [List.getElem?_take_of_lt (by omega)] at hk
  have hnd : lettersX.Nodup := by decide
  have := (List.getElem?_inj (by simp [lettersX] at hlt ⊢; omega) hnd).mp (hk.trans h.symm)
  omega
structure GolInv (h w j K : Nat) (m0 : Mem) (i : Nat) (acc : List W) (m' : Mem) : Prop where
  ok : ∀ v ∈ acc, ∃ r c : Nat, v = .tup [.int r, .int c] ∧ r < h ∧ c < w
  len : acc.length = i
  src : SrcB m' j (K + i)
  frm : Frm m0 j m'
  at_ : m'[m0.length]? = some (.lst acc)
theorem sp_plan (X : TexOk T) (t0 : T.fn 0 = some MB.b0_spots) (t45 : T.fn 45 = some MB.b45_swing) (hT : T.fn 46 = some MB.b46_plan) (hn : 6 ≤ n) {j K tp : Nat} {Ts : List Tx} {h w : Nat} (F : Fl Ts h w) (hh : h ≤ 6) (hw : w ≤ 6) (hop : ∃ t ∈ Ts, ∃ c ∈ t, c ∈ (['.', 'a'] : Tx)) (ht : m[tp]? = some (.lst (Ts.map W.str))) (hs : SrcB m j K) (hK : K + 1000 < 2 ^ 38) (hjt : j ≠ tp)
    (hq : ∀ p pg gl P m', Plan.Ok P → P.Ts = Ts → PlanAt m' p tp pg gl P → m'[pg]? = some (.dct P.bk) → m.length ≤ p → m.length ≤ pg → m.length ≤ gl → SrcB m' j (K + 10) → Frm m j m' → Q (.obj p) m') : Rwp (callN T n 46 [.obj j, .obj tp] m) Q := by
  obtain ⟨n, rfl⟩ : ∃ k, n = k + 1 := ⟨n - 1, by omega⟩
  refine call_wp hT rfl ?_
  have hjl := hs.lt
  have htl := lt_of_at ht
  simp [MB.b46_plan]
  refine sp_spots2 (X := opX) t0 (by omega) F ht fun found z hfl hfs hfn => ?_
  have hne : found ≠ [] := hfn (by
    obtain ⟨t, h1, c, h2, h3⟩ := hop
    refine ⟨t, h1, c, h2, ?_⟩
    simp only [List.mem_cons, List.not_mem_nil, or_false] at h3
    rcases h3 with rfl | rfl <;> decide +kernel)
  have f1 : Frm m j (m ++ .lst found :: z) := (Frm.refl m j).app
  have s1 : SrcB (m ++ .lst found :: z) j K := hs.app
  have hf1 : (m ++ .lst found :: z)[m.length]? = some (.lst found) := app_new
  have hl1 : m.length < (m ++ .lst found :: z).length := by simp
  generalize m ++ .lst found :: z = m1 at f1 s1 hf1 hl1 ⊢
  refine sb_oneL X (by omega) s1.app (by omega) (app_at hf1) hne (by omega) (by omega) fun v m2 hv s2 f2 => ?_
  obtain ⟨hvo, r, c, rfl⟩ := spot_open F (hfs v hv)
  have hd2 : m2[m1.length]? = some (.dct []) := f2.at app_new (by omega)
  have f3 := ((Frm.refl m1 j).app (g := [.dct []])).trans f2
  refine sp_swing X t45 (by omega) s2 (by omega) fun t m3 ht1 s3 f4 => ?_
  have hd3 : m3[m1.length]? = some (.dct []) := f4.at hd2 (by omega)
  have f5 := (f1.trans f3).trans f4
  simp only [dctEnd, hd3]
  simp [pairsW, isKey, mergeW, putW, keyEq]
  have hd4 : (m3.set m1.length (.dct [(sTexts, .obj tp), (sFrom, .tup [.int r, .int c]), (sSwing, .str t)]))[m1.length]? = some (.dct [(sTexts, .obj tp), (sFrom, .tup [.int r, .int c]), (sSwing, .str t)]) := set_at hd3
  have s4 : SrcB (m3.set m1.length (.dct [(sTexts, .obj tp), (sFrom, .tup [.int r, .int c]), (sSwing, .str t)])) j (K + 2) := s3.set (by omega)
  have f6 : Frm m j (m3.set m1.length (.dct [(sTexts, .obj tp), (sFrom, .tup [.int r, .int c]), (sSwing, .str t)])) := f5.set (by omega)
  have e4 : m3.set m1.length (.dct [(.str ['t', 'e', 'x', 't', 's'], .obj tp), (.str ['f', 'r', 'o', 'm'], .tup [.int r, .int c]), (.str ['s', 'w', 'i', 'n', 'g'], .str t)]) = m3.set m1.length (.dct [(sTexts, .obj tp), (sFrom, .tup [.int r, .int c]), (sSwing, .str t)]) := rfl
  rw [e4]
  generalize m3.set m1.length (.dct [(sTexts, .obj tp), (sFrom, .tup [.int r, .int c]), (sSwing, .str t)]) = m4 at hd4 s4 f6 ⊢
  have hjl4 := s4.lt
  have l4 : m1.length < m4.length := lt_of_at hd4
  -- the pages
  rw [w_lc]
  simp [srcOf]
  refine lc_wp (ws := lettersX.map fun c => W.str [c]) (PagInv Ts j (K + 2) m4) (by simp [Src.len, Bs.len, lettersX]) (by simp [SL, lettersX]) ⟨⟨fun _ => [], rfl, fun l hl => (by simp [ltrs] at hl)⟩, s4.app, (Frm.refl m4 j).app, app_new⟩ (fun i acc m' I => sees_st) (fun i x acc m' hx I hl => ?_) (fun acc m5 I => ?_)
  · obtain ⟨⟨β, rfl, hβ⟩, s5, f7, hat⟩ := I
    rw [List.getElem?_map, Option.map_eq_some_iff] at hx
    obtain ⟨d, hd, rfl⟩ := hx
    have hi : i < 4 := (List.getElem?_eq_some_iff.mp hd).1
    have hls := ltrs_succ (Ts := Ts) hd
    have hln := ltrs_new (Ts := Ts) hd
    have htx : m'[tp]? = some (.lst (Ts.map W.str)) := (f6.trans f7).at ht (by omega)
    have hml : m4.length < m'.length := lt_of_at hat
    unfold lcB1
    simp [asgT, wipeE, rcvOk, isStrW]
    rw [r_join0 htx (fl_sum F)]
    simp only [cmpop, inW, sub_flat]
    simp
    by_cases hb : (Ts.any fun t => subT [d] t) = true
    · rw [if_pos hb] at hls
      rw [if_pos (by simpa using hb)]
      refine sp_swing X t45 (by omega) s5 (by omega) fun u m6 hu s6 f8 => ?_
      have hne4 : m4.length ≠ j := by omega
      have e : pairW (ltrs Ts i) β ++ [.tup [.str [d], .str u]] = pairW (ltrs Ts (i + 1)) (fun c => if c = d then u else β c) := by
        rw [hls]
        unfold pairW
        rw [List.map_append]
        congr 1
        · refine List.map_congr_left fun c hc => ?_
          have hcd : c ≠ d := by rintro rfl; exact hln hc
          simp only [if_neg hcd]
        · simp
      refine ⟨f8.at hat hne4, ⟨fun c => if c = d then u else β c, e, fun l hl => ?_⟩, s6.set hne4, (f7.trans f8).set (Nat.le_refl _), set_at (f8.at hat hne4)⟩
      rw [hls] at hl
      rcases List.mem_append.mp hl with hl | hl
      · by_cases hld : l = d
        · simp only [hld, if_true]; exact hu
        · simp only [if_neg hld]; exact hβ l hl
      · rw [List.mem_singleton.mp hl]; simp only [if_true]; exact hu
    · rw [if_neg hb, List.append_nil] at hls
      rw [if_neg (by simpa using hb)]
      exact ⟨⟨β, by rw [hls], by rw [hls]; exact hβ⟩, s5.le (by omega), f7, hat⟩
  · obtain ⟨⟨β, rfl, hβ⟩, s5, f7, hat⟩ := I
    have e5 : ltrs Ts (lettersX.map fun c => W.str [c]).length = lettersOf Ts := rfl
    rw [e5] at hat hβ
    have s5 : SrcB m5 j (K + 6) := s5
    rw [r_dictP hat (letters_nodup Ts)]
    have hdp : (m5 ++ [Ob.dct (bookW (lettersOf Ts) β)])[m5.length]? = some (.dct (bookW (lettersOf Ts) β)) := app_new
    have hd5 : (m5 ++ [Ob.dct (bookW (lettersOf Ts) β)])[m1.length]? = some (.dct [(sTexts, .obj tp), (sFrom, .tup [.int r, .int c]), (sSwing, .str t)]) := app_at (f7.at hd4 (by omega))
    have f8 := f6.trans (f7.app (g := [.dct (bookW (lettersOf Ts) β)]))
    have s6 := s5.app (g := [.dct (bookW (lettersOf Ts) β)])
    have l5 := f7.le
    have e6 : subW (.obj m1.length) sPages (.obj m5.length) (m5 ++ [Ob.dct (bookW (lettersOf Ts) β)]) = some ((m5 ++ [Ob.dct (bookW (lettersOf Ts) β)]).set m1.length (.dct [(sTexts, .obj tp), (sFrom, .tup [.int r, .int c]), (sSwing, .str t), (sPages, .obj m5.length)])) := by
      simp only [subW, hd5]
      rw [if_pos ⟨rfl, by simp [SL]⟩]
      rfl
    unfold sPages at e6
    rw [e6]
    simp only [optP_some]
    have hd6 : ((m5 ++ [Ob.dct (bookW (lettersOf Ts) β)]).set m1.length (.dct [(sTexts, .obj tp), (sFrom, .tup [.int r, .int c]), (sSwing, .str t), (sPages, .obj m5.length)]))[m1.length]? = some (.dct [(sTexts, .obj tp), (sFrom, .tup [.int r, .int c]), (sSwing, .str t), (sPages, .obj m5.length)]) := set_at hd5
    have hdp6 : ((m5 ++ [Ob.dct (bookW (lettersOf Ts) β)]).set m1.length (.dct [(sTexts, .obj tp), (sFrom, .tup [.int r, .int c]), (sSwing, .str t), (sPages, .obj m5.length)]))[m5.length]? = some (.dct (bookW (lettersOf Ts) β)) := by rw [set_ne (by omega)]; exact hdp
    have f9 := f8.set (l := m1.length) (o := .dct [(sTexts, .obj tp), (sFrom, .tup [.int r, .int c]), (sSwing, .str t), (sPages, .obj m5.length)]) (by omega)
    have s7 := s6.set (l := m1.length) (o := .dct [(sTexts, .obj tp), (sFrom, .tup [.int r, .int c]), (sSwing, .str t), (sPages, .obj m5.length)]) (by omega)
    have e7 : [(sTexts, W.obj tp), (sFrom, .tup [.int r, .int c]), (sSwing, .str t), (.str ['p', 'a', 'g', 'e', 's'], .obj m5.length)] = [(sTexts, .obj tp), (sFrom, .tup [.int r, .int c]), (sSwing, .str t), (sPages, .obj m5.length)] := rfl
    rw [e7]
    have l6 : ((m5 ++ [Ob.dct (bookW (lettersOf Ts) β)]).set m1.length (.dct [(sTexts, .obj tp), (sFrom, .tup [.int r, .int c]), (sSwing, .str t), (sPages, .obj m5.length)])).length = m5.length + 1 := by simp
    generalize (m5 ++ [Ob.dct (bookW (lettersOf Ts) β)]).set m1.length (.dct [(sTexts, .obj tp), (sFrom, .tup [.int r, .int c]), (sSwing, .str t), (sPages, .obj m5.length)]) = m6 at hd6 hdp6 f9 s7 l6 ⊢
    -- the wishes
    rw [w_lc]
    simp
    refine sb_take X (by omega) s7 (by omega) ⟨by omega, by omega⟩ fun k m7 k0 k1 s8 f10 => ?_
    obtain ⟨a, rfl⟩ : ∃ a : Nat, k = a := ⟨k.toNat, by omega⟩
    rw [rng1 (k := a) rfl (by omega)]
    simp only [optP_some]
    have hd7 := f10.at hd6 (by omega)
    have hdp7 := f10.at hdp6 (by omega)
    have f11 := f9.trans f10
    have hl7 := f10.le
    have hj7 := s8.lt
    refine lc_wp (ws := (List.range a).map fun (i : Nat) => W.int i) (GolInv h w j (K + 7) m7) (by simp [Src.len, Bs.len]) (by simp only [SL, List.length_map, List.length_range]; omega) ⟨fun v hv => (by cases hv), rfl, s8.app, (Frm.refl m7 j).app, app_new⟩ (fun i acc m' I => sees_st) (fun i x acc m' hx I hl => ?_) (fun acc m8 I => ?_)
    · obtain ⟨g1, g2, s9, f12, hat2⟩ := I
      have hi : i < a := by have := (List.getElem?_eq_some_iff.mp hx).1; simpa using this
      have htx : m'[tp]? = some (.lst (Ts.map W.str)) := (f11.trans f12).at ht (by omega)
      have hml : m7.length < m'.length := lt_of_at hat2
      unfold lcB1
      simp [asgT, wipeE]
      refine sp_spots2 (X := signsG) t0 (by omega) F htx fun found2 z2 hfl2 hfs2 hfn2 => ?_
      have hne2 : found2 ≠ [] := hfn2 (by
        obtain ⟨t, h1, c, h2, h3⟩ := hop
        refine ⟨t, h1, c, h2, ?_⟩
        simp only [List.mem_cons, List.not_mem_nil, or_false] at h3
        rcases h3 with rfl | rfl <;> decide +kernel)
      refine sb_oneL X (by omega) s9.app (by omega) app_new hne2 (by omega) (by omega) fun v m9 hv s10 f13 => ?_
      obtain ⟨r2, c2, rfl, h1, h2, _⟩ := spot_cell F (hfs2 v hv)
      have hne7 : m7.length ≠ j := by omega
      have hat3 := f13.at (app_at hat2) hne7
      refine ⟨hat3, fun v hv => ?_, by simp [g2], s10.set hne7, ((f12.app).trans f13).set (Nat.le_refl _), set_at hat3⟩
      rcases List.mem_append.mp hv with hv | hv
      · exact g1 v hv
      · exact ⟨r2, c2, List.mem_singleton.mp hv, h1, h2⟩
    · obtain ⟨g1, g2, s9, f12, hat2⟩ := I
      simp only [List.length_map, List.length_range] at g2 s9
      have hd8 := f12.at hd7 (by omega)
      have hdp8 := f12.at hdp7 (by omega)
      have hl8 := f12.le
      simp [ssetW, seqW, hat2, set_ok F.h1 F.w1 (by omega) g1]
      have e8 : subW (.obj m1.length) sGoals (.obj m8.length) (m8 ++ [Ob.lst (srtB codeW (dedupW acc))]) = some ((m8 ++ [Ob.lst (srtB codeW (dedupW acc))]).set m1.length (.dct [(sTexts, .obj tp), (sFrom, .tup [.int r, .int c]), (sSwing, .str t), (sPages, .obj m5.length), (sGoals, .obj m8.length)])) := by
        simp only [subW, app_at hd8]
        rw [if_pos ⟨rfl, by simp [SL]⟩]
        rfl
      unfold sGoals at e8
      rw [e8]
      simp only [optP_some]
      have f13 := ((f11.trans f12).app (g := [.lst (srtB codeW (dedupW acc))])).set (l := m1.length) (o := .dct [(sTexts, .obj tp), (sFrom, .tup [.int r, .int c]), (sSwing, .str t), (sPages, .obj m5.length), (sGoals, .obj m8.length)]) (by omega)
      refine hq m1.length m5.length m8.length ⟨Ts, h, w, r, c, t, β, srtB codeW (dedupW acc)⟩ _ ⟨F, hh, hw, hvo, ht1, hβ, goal_ok (by omega) g1⟩ rfl ⟨set_at (app_at hd8), f13.at ht (by omega), .inl ?_, ?_⟩ ?_ (by omega) (by omega) (by omega) ((s9.app.set (by omega)).le (by omega)) f13
      · rw [set_ne (by omega)]; exact app_at hdp8
      · rw [set_ne (by omega)]; exact app_new
      · rw [set_ne (by omega)]; exact app_at hdp8
end Sp
end

section
set_option Elab.async false
set_option linter.all false
set_option maxRecDepth 100000
set_option maxHeartbeats 4000000
/-! Wp13: the run of law k26. -/
namespace Sp
open Mi
variable {T : Tab} {C D : Cl} {m : Mem} {Q : W → Mem → Prop} {n : Nat}
theorem SrcB.ne {j K q : Nat} {o : Ob} (h : SrcB m j K) (g : m[q]? = some o) (hi : ∀ ws, o ≠ .lst ws) : q ≠ j := by
  obtain ⟨k, ⟨a, c, h⟩, _⟩ := h
  rintro rfl
  rw [h] at g
  exact hi _ (Option.some.inj g).symm
theorem WdAt.frm {p f pg j K : Nat} {o : Wo} {bk : List (W × W)} {goals opening : W} {s0 : St} {m' : Mem} (h : WdAt m p f pg o bk goals opening s0) (hs : SrcB m j K) (k : Frm m j m') : WdAt m' p f pg o bk goals opening s0 :=
  ⟨k.at h.at_ (hs.ne h.at_ (fun _ e => by cases e)), k.at h.fl (hs.ne h.fl (fun _ e => by cases e)), k.at h.pages (hs.ne h.pages (fun _ e => by cases e))⟩
theorem PlanAt.frm {p tp pg gl j K : Nat} {P : Plan} {m' : Mem} (h : PlanAt m p tp pg gl P) (hs : SrcB m j K) (ht : tp ≠ j) (hg : gl ≠ j) (k : Frm m j m') : PlanAt m' p tp pg gl P :=
  ⟨k.at h.at_ (hs.ne h.at_ (fun _ e => by cases e)), k.at h.tex ht, h.pag.imp (fun g => k.at g (hs.ne g (fun _ e => by cases e))) (fun g => k.at g (hs.ne g (fun _ e => by cases e))), k.at h.gol hg⟩
theorem Frm.unlock {mB m' : Mem} {j pg : Nat} {bk : List (W × W)} (h : mB[pg]? = some (.dct bk)) (k : Frm (mB.set pg (.dcl bk)) j m') : Frm mB j (m'.set pg (.dct bk)) := by
  obtain ⟨h1, h2⟩ := k
  rw [List.length_set] at h1 h2
  refine ⟨by simpa using h1, fun l hl hj => ?_⟩
  by_cases e : pg = l
  · subst e
    rw [List.getElem?_set_self (by omega), h]
  · rw [set_ne e, h2 l hl hj, set_ne e]
theorem Twin.with {P : Plan} {z : Char} {t : Tx} : Twin P.wo (P.with z t).wo z := ⟨rfl, rfl, rfl, fun d hd => by
  show P.β d = if d = z then t else P.β d
  rw [if_neg hd]⟩
theorem with_z {P : Plan} {z : Char} {t : Tx} (h : t ≠ P.β z) : P.wo.β z ≠ (P.with z t).wo.β z := by
  show P.β z ≠ if z = z then t else P.β z
  rw [if_pos rfl]
  exact Ne.symm h
theorem bk_keys {P : Plan} : P.bk.map (·.1) = (lettersOf P.Ts).map fun c => W.str [c] := by
  unfold Plan.bk bookW
  rw [List.map_map]
  rfl
theorem open_stand {Ts : List Tx} {h w : Nat} (F : Fl Ts h w) {r c : Int} (hb : W.tup [.int r, .int c] ∈ openW Ts h w) : subT [cell Ts h w r c] openX = true := by
  have hs := (List.mem_filter.mp hb).2
  have hg := cell_sign F (r := r) (c := c)
  unfold opnB opX at hs
  dsimp only at hs
  simp only [signsX, List.mem_cons, List.not_mem_nil, or_false] at hg
  rcases hg with e | e | e | e | e | e | e | e <;> rw [e] at hs ⊢
  · exact absurd hs (by decide +kernel)
  · decide +kernel
  · exact absurd hs (by decide +kernel)
  all_goals decide +kernel
theorem Plan.Ok.st {P : Plan} (h : P.Ok) : okSt P.wo (some ((P.r, P.c), P.t)) := ⟨open_stand h.fl h.opn, h.tn⟩
/-- what holds in a plan's memory -/
structure PM (m : Mem) (j K p tp pg gl q f pq : Nat) (P : Plan) : Prop where
  ok : P.Ok
  pl : PlanAt m p tp pg gl P
  wd : WdAt m q f pq P.wo P.bk (.tup (srtB codeW P.gs)) (.tup [.int P.r, .int P.c]) (some ((P.r, P.c), P.t))
  src : SrcB m j K
  jt : tp ≠ j
  jg : gl ≠ j
theorem PM.frm {j K K' p tp pg gl q f pq : Nat} {P : Plan} {m' : Mem} (h : PM m j K p tp pg gl q f pq P) (k : Frm m j m') (s : SrcB m' j K') : PM m' j K' p tp pg gl q f pq P := ⟨h.ok, h.pl.frm h.src h.jt h.jg k, h.wd.frm h.src k, s, h.jt, h.jg⟩
theorem PM.jp {j K p tp pg gl q f pq : Nat} {P : Plan} (h : PM m j K p tp pg gl q f pq P) : p ≠ j := h.src.ne h.pl.at_ (fun _ e => by cases e)
theorem PM.jpg {j K p tp pg gl q f pq : Nat} {P : Plan} (h : PM m j K p tp pg gl q f pq P) : pg ≠ j := by
  rcases h.pl.pag with g | g <;> exact h.src.ne g (fun _ e => by cases e)
/-- the plan's book locked, unlocked -/
theorem PM.lk {j K p tp pg gl q f pq : Nat} {P : Plan} (h : PM m j K p tp pg gl q f pq P) (hd : dctAny m pg P.bk) (np : pq ≠ pg) {o : Ob} (ho : o = .dct P.bk ∨ o = .dcl P.bk) : PM (m.set pg o) j K p tp pg gl q f pq P := by
  have h0 : ∀ (l : Nat) (o' : Ob), m[l]? = some o' → (∀ bk, o' ≠ .dct bk ∧ o' ≠ .dcl bk) → (m.set pg o)[l]? = some o' := fun l o' g hn => by
    rw [set_ne (by
      rintro rfl
      rcases hd with hd | hd <;> rw [hd] at g
      · exact (hn _).1 (Option.some.inj g).symm
      · exact (hn _).2 (Option.some.inj g).symm)]
    exact g
  have hs : (m.set pg o)[pg]? = some o := by rcases hd with hd | hd <;> exact set_at hd
  refine ⟨h.ok, ⟨?_, h0 _ _ h.pl.tex (fun _ => ⟨Ob.noConfusion, Ob.noConfusion⟩), ?_, h0 _ _ h.pl.gol (fun _ => ⟨Ob.noConfusion, Ob.noConfusion⟩)⟩, ⟨h0 _ _ h.wd.at_ (fun _ => ⟨Ob.noConfusion, Ob.noConfusion⟩), h0 _ _ h.wd.fl (fun _ => ⟨Ob.noConfusion, Ob.noConfusion⟩), ?_⟩, h.src.set h.jpg, h.jt, h.jg⟩
  · have : pg ≠ p := by
      rintro rfl
      have h1 := h.pl.at_
      have hle := letters_le P.Ts
      rcases hd with hd | hd <;> rw [hd] at h1
      · have := congrArg List.length (Ob.dct.inj (Option.some.inj h1))
        simp [planD, Plan.bk, bookW] at this
        omega
      · cases h1
    rw [set_ne this]
    exact h.pl.at_
  · rcases ho with rfl | rfl
    · exact .inl hs
    · exact .inr hs
  · rw [set_ne (Ne.symm np)]
    exact h.wd.pages
theorem ev_pages {cl : Caller} {e : Env} {p tp pg gl : Nat} {P : Plan} (he : e[3]? = some (some (.obj p))) (hp : PlanAt m p tp pg gl P) : ev T cl (.idx (.var 3) (.str ['p', 'a', 'g', 'e', 's'])) e m = .ok (.obj pg) m := by
  have h : Rwp (ev T cl (.idx (.var 3) (.str ['p', 'a', 'g', 'e', 's'])) e m) fun w m' => w = .obj pg ∧ m' = m := by
    simp [he]
    rw [r_idxA (dctAt_dct hp.at_) rfl]
    simp
  obtain ⟨w, m', e, rfl, rfl⟩ := h.ok
  exact e
end Sp
end

section
set_option Elab.async false
set_option linter.all false
set_option maxRecDepth 100000
set_option maxHeartbeats 4000000
/-! Yp2: worlds bundled; ways; begun. -/
namespace Sp
open Mi
variable {T : Tab} {C D : Cl} {m : Mem} {Q : W → Mem → Prop} {n : Nat}
/-- a world at p, that begins at s0 -/
structure WdX (m : Mem) (p : Nat) (o : Wo) (s0 : St) : Prop where
  ex : ∃ f pg gs r c, WdAt m p f pg o (bookW (lettersOf o.Ts) o.β) (.tup gs) (.tup [.int r, .int c]) s0 ∧ GoalOk o.h o.w gs ∧ W.tup [.int r, .int c] ∈ openW o.Ts o.h o.w
  fl : Fl o.Ts o.h o.w
  tn : ∀ l ∈ lettersOf o.Ts, o.β l ∈ turnsX
  st : okSt o s0
theorem WdX.keep {p : Nat} {o : Wo} {s0 : St} {m' : Mem} (h : WdX m p o s0) (k : Keep m m') : WdX m' p o s0 := by
  obtain ⟨⟨f, pg, gs, r, c, h1, h2, h3⟩, a, b, d⟩ := h
  exact ⟨⟨f, pg, gs, r, c, h1.keep k, h2, h3⟩, a, b, d⟩
theorem WdX.frm {p j K : Nat} {o : Wo} {s0 : St} {m' : Mem} (h : WdX m p o s0) (hs : SrcB m j K) (k : Frm m j m') : WdX m' p o s0 := by
  obtain ⟨⟨f, pg, gs, r, c, h1, h2, h3⟩, a, b, d⟩ := h
  exact ⟨⟨f, pg, gs, r, c, h1.frm hs k, h2, h3⟩, a, b, d⟩
theorem WdX.ok {p : Nat} {o : Wo} {s0 : St} (h : WdX m p o s0) : o.Ok (bookW (lettersOf o.Ts) o.β) := book_ok h.fl h.tn
theorem sp_walkX (K : FlOk T C) (U : TuOk T) (V : WoOk T D) (hn : 10 ≤ n) {p : Nat} {o : Wo} {s0 : St} (hw : WdX m p o s0) {x : Tx} (hx : ∀ c ∈ x, c ∈ urdl) (hz : x.length ≤ 1000000)
    (hq : ∀ l a q m', Run o s0 x l a → Ext m m' → m'[q]? = some (.lst (l.map stW)) → Q (.obj q) m') : Rwp (callN T n 49 [.obj p, .str x] m) Q := by
  obtain ⟨f, pg, gs, r, c, h1, _, _⟩ := hw.ex
  exact sp_walk K U V hn hw.ok h1 hw.st hx hz hq
theorem sp_comingsX (K : FlOk T C) (U : TuOk T) (V : WoOk T D) (hn : 11 ≤ n) {p : Nat} {o : Wo} {s0 : St} (hw : WdX m p o s0) {x : Tx} (hx : ∀ c ∈ x, c ∈ urdl) (hz : x.length ≤ 100000)
    (hq : ∀ l a q m', Run o s0 x l a → Ext m m' → m'[q]? = some (.lst (comL o l x.length)) → Q (.obj q) m') : Rwp (callN T n 50 [.obj p, .str x] m) Q := by
  obtain ⟨f, pg, gs, r, c, h1, _, _⟩ := hw.ex
  exact sp_comings K U V hn hw.ok h1 hw.st hx hz hq
theorem WdX.at_ {p : Nat} {o : Wo} {s0 : St} (h : WdX m p o s0) : ∃ fs, m[p]? = some (.ins 1 fs) := by
  obtain ⟨f, pg, gs, r, c, h1, _, _⟩ := h.ex
  exact ⟨_, h1.at_⟩
structure WyOk (T : Tab) (D : Cl) : Prop where
  m14 : D.meths.lookup 14 = some 62
  m15 : D.meths.lookup 15 = some 63
  m16 : D.meths.lookup 16 = some 65
  t62 : T.fn 62 = some MB.b62_World_begun
  t63 : T.fn 63 = some MB.b63_World_ways
  t64 : T.fn 64 = some MB.b64_is_stand
  t65 : T.fn 65 = some MB.b65_World_want_stand
/-- what a deed becomes at a stand -/
def wayAt : St → Char → Char
  | none, c => c
  | some (_, t), c => tw t c
def waysT (l : List St) (x : Tx) : Tx := List.zipWith wayAt l x
theorem wayAt_deed {o : Wo} {s : St} (h : okSt o s) {c : Char} (hc : c ∈ urdl) : wayAt s c ∈ urdl := by
  cases s with
  | none => exact hc
  | some s => exact tw_deed h.2 hc
theorem waysT_len {l : List St} {x : Tx} (h : x.length ≤ l.length) : (waysT l x).length = x.length := by
  simp only [waysT, List.length_zipWith]
  omega
theorem waysT_deeds {o : Wo} {l : List St} {x : Tx} (h : ∀ v ∈ l, okSt o v) (hx : ∀ c ∈ x, c ∈ urdl) : ∀ c ∈ waysT l x, c ∈ urdl := by
  intro c hc
  unfold waysT at hc
  obtain ⟨i, hi⟩ := List.mem_iff_getElem?.mp hc
  rw [List.getElem?_zipWith] at hi
  split at hi
  · rename_i a b h1 h2
    cases hi
    exact wayAt_deed (h _ (List.mem_of_getElem? h1)) (hx _ (List.mem_of_getElem? h2))
  · cases hi
theorem sp_ways (K : FlOk T C) (U : TuOk T) (V : WoOk T D) (Y : WyOk T D) (hn : 11 ≤ n) {p : Nat} {o : Wo} {s0 : St} (hw : WdX m p o s0) {x : Tx} (hx : ∀ c ∈ x, c ∈ urdl) (hz : x.length ≤ 1000)
    (hq : ∀ l a m', Run o s0 x l a → Ext m m' → Q (.str (waysT l x)) m') : Rwp (callN T n 63 [.obj p, .str x] m) Q := by
  obtain ⟨n, rfl⟩ : ∃ k, n = k + 1 := ⟨n - 1, by omega⟩
  refine call_wp Y.t63 rfl ?_
  obtain ⟨fs, hp⟩ := hw.at_
  simp [MB.b63_World_ways, w_meth, hp, V.c, V.m9]
  refine sp_walkX K U V (by omega) hw hx (by omega) fun l a q m1 hr hE hl => ?_
  simp [rcvOk, isStrW]
  rw [w_lc]
  simp [srcOf, hl]
  have hlen := hr.len
  have hok := hr.okAll hw.ok hw.st
  refine lc_pure (ws := zipW (l.map stW) (x.map fun c => W.str [c])) (fun v => match v with | .tup [.non, .str [c]] => some (.str [c]) | .tup [.tup [_, .str t], .str [c]] => some (.str [tw t c]) | _ => none) (by rw [zipW_len]; simp [Src.len, Bs.len, hl]; omega) (by rw [zipW_len]; simp [SL]; omega) (fun acc z => sees_zip (sees_lv (app_at hl)) sees_st) (fun i w acc z P hw2 hP => ?_) (fun z => ?_)
  · have hP2 := hP z
    generalize m1 ++ Ob.lst acc :: z = M2 at hP2 ⊢
    simp only [zipW, List.getElem?_zipWith, List.getElem?_map] at hw2
    cases e1 : l[i]? with
    | none => rw [e1] at hw2; simp at hw2
    | some s => cases e2 : x[i]? with
      | none => rw [e1, e2] at hw2; simp at hw2
      | some c =>
        rw [e1, e2] at hw2
        simp at hw2
        subst hw2
        have hs := hok s (List.mem_of_getElem? e1)
        have hc := hx c (List.mem_of_getElem? e2)
        unfold lcB1
        simp [asgT, asgL, wipeE]
        cases s with
        | none =>
          simp [stW, isNon] at hP2 ⊢
          exact hP2
        | some s =>
          obtain ⟨⟨r, d⟩, t⟩ := s
          simp [stW, isNon, getI_nat] at hP2 ⊢
          refine sp_wayT U (by omega) hs.2 hc ?_
          exact hP2
  · have e : (zipW (l.map stW) (x.map fun c => W.str [c])).filterMap (fun v => match v with | .tup [.non, .str [c]] => some (W.str [c]) | .tup [.tup [_, .str t], .str [c]] => some (.str [tw t c]) | _ => none) = (waysT l x).map fun c => W.str [c] := by
      unfold waysT zipW
      clear hq hr hlen hok hl hx hz
      induction l generalizing x with
      | nil => rfl
      | cons s l ih =>
        cases x with
        | nil => rfl
        | cons c x =>
          simp only [List.map_cons, List.zipWith_cons_cons, List.filterMap_cons]
          cases s with
          | none => exact congrArg (fun r => W.str [c] :: r) ih
          | some s => obtain ⟨⟨r, d⟩, t⟩ := s; exact congrArg (fun r => W.str [tw t c] :: r) ih
    rw [e, r_joinO app_new (by rw [waysT_len (by omega)]; simp only [SL]; omega)]
    exact hq l a _ hr (hE.trans ⟨_, rfl⟩)
theorem sp_isstand (K : FlOk T C) (U : TuOk T) (Y : WyOk T D) (hn : 7 ≤ n) {f : Nat} {o : Wo} {s : St} (F : Fl o.Ts o.h o.w) (ha : FlAt m f o.Ts) (hs : okSt o s) (hq : Q (.bl true) m) : Rwp (callN T n 64 [.obj f, stW s] m) Q := by
  obtain ⟨n, rfl⟩ : ∃ k, n = k + 1 := ⟨n - 1, by omega⟩
  refine call_wp Y.t64 rfl ?_
  cases s with
  | none =>
    simp [MB.b64_is_stand, stW, isNon]
    exact hq
  | some s =>
    obtain ⟨⟨r, c⟩, t⟩ := s
    have ha' := ha
    unfold FlAt at ha'
    have hk : kdW m .tuple (.tup [.tup [.int r, .int c], .str t]) = some true := by simp [kdW]
    simp [MB.b64_is_stand, stW, isNon, r_isi hk, getI_nat, w_meth, ha', K.c, K.m4]
    refine sp_can K (by omega) F ha ?_
    rw [hs.1]
    simp [getI_nat]
    refine sp_isturn U (by omega) hs.2 ?_
    exact hq
theorem sp_begun (K : FlOk T C) (U : TuOk T) (V : WoOk T D) (M : WmOk T C D) (Y : WyOk T D) (hn : 10 ≤ n) {p : Nat} {o : Wo} {s0 s : St} (hw : WdX m p o s0) (hs : okSt o s)
    (hq : ∀ q m', Ext m m' → WdX m' q o s → m.length ≤ q → Q (.obj q) m') : Rwp (callN T n 62 [.obj p, stW s] m) Q := by
  obtain ⟨n, rfl⟩ : ∃ k, n = k + 1 := ⟨n - 1, by omega⟩
  refine call_wp Y.t62 rfl ?_
  obtain ⟨f, pg, gs, r, c, h1, h2, h3⟩ := hw.ex
  simp [MB.b62_World_begun, w_meth, h1.at_, V.c, Y.m16]
  obtain ⟨n, rfl⟩ : ∃ k, n = k + 1 := ⟨n - 1, by omega⟩
  refine call_wp Y.t65 rfl ?_
  simp [MB.b65_World_want_stand, w_fld, h1.at_]
  refine sp_isstand K U Y (by omega) hw.fl h1.fl hs ?_
  simp [w_makeK, w_fld, h1.at_]
  have ep : ∀ u, permW [Pk.a 0, Pk.a 1, Pk.a 2, Pk.d 0 (.str ['u', 'r', 'd', 'l']), Pk.a 3, Pk.a 4] [.obj u, .obj f, .tup [.int r, .int c], .obj pg, .tup gs] = some [.obj u, .obj f, .tup [.int r, .int c], .str urdl, .obj pg, .tup gs] := fun u => rfl
  simp [V.c, V.ini, ep]
  refine sp_worldG K U V M (by omega) hw.fl h1.fl h3 (show urdl ∈ turnsX by decide) (.inl ⟨pg, rfl, h1.pages⟩) hw.tn (.inr rfl) h2 fun z pg' hpl hpg => ⟨rfl, ?_⟩
  have hset : ∀ z o o', (m ++ o :: z).set m.length o' = m ++ o' :: z := fun z o o' => by
    rw [List.set_append_right _ _ (Nat.le_refl _)]
    simp
  rw [r_fldW app_new (by simp [wdF])]
  simp only [optP_some, hset]
  have e1 : putA 1 (stW s) (wdF f pg' (.tup (srtB codeW gs)) (.tup [.int r, .int c]) (some ((r, c), ['u', 'r', 'd', 'l']))) = wdF f pg' (.tup (srtB codeW gs)) (.tup [.int r, .int c]) s := by simp [putA, wdF]
  rw [e1]
  have hne : pg' ≠ m.length := by
    rintro rfl
    rw [app_new] at hpg
    cases hpg
  have hpg2 : (m ++ .ins 1 (wdF f pg' (.tup (srtB codeW gs)) (.tup [.int r, .int c]) s) :: z)[pg']? = some (.dct (bookW (lettersOf o.Ts) o.β)) := by
    rw [← hset z (.ins 1 (wdF f pg' (.tup (srtB codeW gs)) (.tup [.int r, .int c]) (some ((r, c), ['u', 'r', 'd', 'l'])))), set_ne (Ne.symm hne)]
    exact hpg
  exact hq _ _ ⟨_, rfl⟩ ⟨⟨f, pg', srtB codeW gs, r, c, ⟨app_new, app_at h1.fl, hpg2⟩, goal_srt h2, h3⟩, hw.fl, hw.tn, hs⟩ (Nat.le_refl _)
end Sp
end

section
set_option Elab.async false
set_option linter.all false
set_option maxRecDepth 100000
set_option maxHeartbeats 4000000
/-! Yp3: plain law: a walk is a bookless one; stretches. -/
namespace Sp
open Mi
def plainO (o : Wo) : Wo := ⟨o.Ts, o.h, o.w, fun _ => urdl⟩
def plainS : St → St := Option.map fun s => (s.1, urdl)
theorem tw_urdl {c : Char} (h : c ∈ urdl) : tw urdl c = c := by
  simp only [urdl, List.mem_cons, List.not_mem_nil, or_false] at h
  rcases h with rfl | rfl | rfl | rfl <;> rfl
theorem map_urdl : urdl.map (tw urdl) = urdl := rfl
theorem goes_plain {o : Wo} {r c : Int} {x : Char} {p : Option (Int × Int)} (g : Goes o r c x p) : Goes (plainO o) r c x p := by
  obtain ⟨h1, h2, h3⟩ := g
  exact ⟨h1, h2, h3⟩
/-- one deed, in the bookless world: its way -/
theorem step_plain {o : Wo} {s s' : St} {c : Char} (h : Step o s c s') (hs : okSt o s) (hc : c ∈ urdl) : Step (plainO o) (plainS s) (wayAt s c) (plainS s') := by
  cases h with
  | lost => exact .lost
  | @pit r d t x h1 =>
    have hw := tw_deed hs.2 hc
    exact .pit (by rw [show tw urdl (wayAt (some ((r, d), t)) c) = tw t c from tw_urdl hw]; exact goes_plain h1)
  | @stay r d t x h1 =>
    have hw := tw_deed hs.2 hc
    exact .stay (by rw [show tw urdl (wayAt (some ((r, d), t)) c) = tw t c from tw_urdl hw]; exact goes_plain h1)
  | @go r d r' c' t x h1 h2 h3 =>
    have hw := tw_deed hs.2 hc
    exact .go (by rw [show tw urdl (wayAt (some ((r, d), t)) c) = tw t c from tw_urdl hw]; exact goes_plain h1) h2 h3
  | @turn r d r' c' t x h1 h2 h3 =>
    have hw := tw_deed hs.2 hc
    have e : plainS (some ((r', c'), t.map (tw (o.β (cell o.Ts o.h o.w r' c'))))) = some ((r', c'), urdl.map (tw ((plainO o).β (cell (plainO o).Ts (plainO o).h (plainO o).w r' c')))) := rfl
    rw [e]
    exact .turn (by rw [show tw urdl (wayAt (some ((r, d), t)) c) = tw t c from tw_urdl hw]; exact goes_plain h1) h2 h3
theorem waysT_snoc {l : List St} {x : Tx} {a b : St} {c : Char} (hl : l.length = x.length + 1) (ha : l[x.length]? = some a) : waysT (l ++ [b]) (x ++ [c]) = waysT l x ++ [wayAt a c] := by
  unfold waysT
  refine List.ext_getElem? fun i => ?_
  rw [List.getElem?_zipWith]
  by_cases h1 : i < x.length
  · rw [List.getElem?_append_left (by omega), List.getElem?_append_left h1, List.getElem?_append_left (by rw [List.length_zipWith]; omega), List.getElem?_zipWith]
  · by_cases h2 : i = x.length
    · subst h2
      rw [List.getElem?_append_left (by omega), ha, List.getElem?_append_right (Nat.le_refl _), List.getElem?_append_right (by rw [List.length_zipWith]; omega)]
      have : x.length - (List.zipWith wayAt l x).length = 0 := by rw [List.length_zipWith]; omega
      rw [this]
      simp
    · rw [List.getElem?_eq_none (l := x ++ [c]) (by simp; omega), List.getElem?_eq_none (l := List.zipWith wayAt l x ++ [wayAt a c]) (by simp; omega)]
      cases (l ++ [b])[i]? <;> rfl
theorem run_plain {o : Wo} {bk : List (W × W)} (O : o.Ok bk) {s a : St} {x : Tx} {l : List St} (h : Run o s x l a) (hs : okSt o s) (hx : ∀ c ∈ x, c ∈ urdl) : Run (plainO o) (plainS s) (waysT l x) (l.map plainS) (plainS a) := by
  induction h with
  | nil => exact .nil
  | @snoc x l a b c h st ih =>
    rw [waysT_snoc h.len h.last, List.map_append]
    exact .snoc (ih fun c hc => hx c (by simp [hc])) (step_plain st (h.ok O hs) (hx c (by simp)))
/-- the place of a stand -/
def spW : St → W
  | none => .non
  | some ((r, c), _) => .tup [.int r, .int c]
theorem sp_plainS (s : St) : spW (plainS s) = spW s := by
  cases s with
  | none => rfl
  | some s => obtain ⟨⟨r, c⟩, t⟩ := s; rfl
/-! ### lost is lost; turns stay -/
def NoC (o : Wo) (l : List St) (i : Nat) : Prop := ∀ p q, l[i]? = some p → l[i + 1]? = some q → ∀ z, ¬ isCom o z p q
theorem run_lost {o : Wo} {s a : St} {x : Tx} {l : List St} (h : Run o s x l a) {i : Nat} (hi : l[i]? = some none) : ∀ j, i + j < l.length → l[i + j]? = some none := by
  intro j
  induction j with
  | zero => intro _; exact hi
  | succ j ih =>
    intro hj
    have h1 := ih (by omega)
    have h2 : l[i + j + 1]? = some (l[i + j + 1]'(by omega)) := List.getElem?_eq_getElem _
    generalize l[i + j + 1]'(by omega) = q at h2
    obtain ⟨c, _, st⟩ := h.stepAt h1 h2
    cases st
    exact h2
theorem step_turn {o : Wo} {bk : List (W × W)} (O : o.Ok bk) {r c : Int} {t : Tx} {x : Char} {q : St} (st : Step o (some ((r, c), t)) x q) (hn : ∀ z, ¬ isCom o z (some ((r, c), t)) q) : q = none ∨ ∃ r' c', q = some ((r', c'), t) := by
  cases st with
  | pit _ => exact .inl rfl
  | stay _ => exact .inr ⟨_, _, rfl⟩
  | go _ _ _ => exact .inr ⟨_, _, rfl⟩
  | @turn r d r' c' t x h1 h2 h3 =>
    exfalso
    refine hn (cell o.Ts o.h o.w r' c') ?_
    unfold isCom
    simp only [comAt, if_pos (show ¬ (r' = r ∧ c' = c) ∧ cell o.Ts o.h o.w r' c' ∈ lettersX from ⟨h2, h3⟩)]
    rfl
/-- between two comings -/
theorem run_turns {o : Wo} {bk : List (W × W)} (O : o.Ok bk) {s a : St} {x : Tx} {l : List St} (h : Run o s x l a) {i k : Nat} {r c : Int} {t : Tx} (hi : l[i]? = some (some ((r, c), t))) (hk : k ≤ x.length) (hn : ∀ j, i ≤ j → j + 1 < k → NoC o l j) : ∀ j, i + j < k → l[i + j]? = some none ∨ ∃ r' c', l[i + j]? = some (some ((r', c'), t)) := by
  have hl := h.len
  intro j
  induction j with
  | zero => intro _; exact .inr ⟨r, c, hi⟩
  | succ j ih =>
    intro hj
    have h2 : l[i + j + 1]? = some (l[i + j + 1]'(by omega)) := List.getElem?_eq_getElem _
    generalize l[i + j + 1]'(by omega) = q at h2
    rcases ih (by omega) with h1 | ⟨r', c', h1⟩
    · obtain ⟨d, _, st⟩ := h.stepAt h1 h2
      cases st
      exact .inl h2
    · obtain ⟨d, _, st⟩ := h.stepAt h1 h2
      rcases step_turn O st (hn (i + j) (by omega) (by omega) _ _ h1 h2) with rfl | ⟨r2, c2, rfl⟩
      · exact .inl h2
      · exact .inr ⟨r2, c2, h2⟩
/-- a stretch is a bookless walk by one turn -/
theorem run_stretch {o : Wo} {bk bk' : List (W × W)} (O : o.Ok bk) (O' : (plainO o).Ok bk') {s a b : St} {x : Tx} {l l2 : List St} (h : Run o s x l a) (hs : okSt o s) (hx : ∀ c ∈ x, c ∈ urdl) {i k : Nat} {r c : Int} {t : Tx} (hi : l[i]? = some (some ((r, c), t))) (hik : i ≤ k) (hk : k ≤ x.length) (hn : ∀ j, i ≤ j → j + 1 < k → NoC o l j)
    (h2 : Run (plainO o) (some ((r, c), urdl)) (((x.drop i).take (k - i)).map (tw t)) l2 b) : ∀ j, j ≤ k - i → l2[j]? = (l[i + j]?).map plainS := by
  have hl := h.len
  have hl2 := h2.len
  rw [List.length_map, List.length_take, List.length_drop] at hl2
  have hok := h.okAll O hs
  intro j
  induction j with
  | zero =>
    intro _
    rw [h2.zero, Nat.add_zero, hi]
    rfl
  | succ j ih =>
    intro hj
    have e0 := ih (by omega)
    have a1 : l[i + j]? = some (l[i + j]'(by omega)) := List.getElem?_eq_getElem _
    have a2 : l[i + j + 1]? = some (l[i + j + 1]'(by omega)) := List.getElem?_eq_getElem _
    have b2 : l2[j + 1]? = some (l2[j + 1]'(by omega)) := List.getElem?_eq_getElem _
    generalize l[i + j]'(by omega) = p at a1
    generalize l[i + j + 1]'(by omega) = q at a2
    generalize l2[j + 1]'(by omega) = q' at b2
    rw [a1] at e0
    obtain ⟨d, hd, st⟩ := h.stepAt a1 a2
    obtain ⟨d', hd', st'⟩ := h2.stepAt e0 b2
    have hdu := hx d (List.mem_of_getElem? hd)
    have e1 : d' = tw t d := by
      rw [List.getElem?_map, List.getElem?_take_of_lt (by omega), List.getElem?_drop, hd] at hd'
      exact (Option.some.inj hd').symm
    have st2 := step_plain st (hok p (List.mem_of_getElem? a1)) hdu
    have e2 : q' = plainS q := by
      rcases run_turns O h hi hk hn j (by omega) with z | ⟨r', c', z⟩
      · rw [a1] at z
        cases z
        cases st
        cases st'
        rfl
      · rw [a1] at z
        cases z
        have e3 : wayAt (some ((r', c'), t)) d = d' := e1.symm
        rw [e3] at st2
        exact st'.uniq O' st2
    rw [b2, e2, show i + (j + 1) = i + j + 1 by omega, a2]
    rfl
/-! ### cuts -/
inductive Cuts (o : Wo) (l : List St) : Nat → List Nat → Nat → Prop
  | nil : Cuts o l 0 [0] 0
  | no {k e : Nat} {L : List Nat} : Cuts o l k L e → NoC o l k → Cuts o l (k + 1) L e
  | yes {k e : Nat} {L : List Nat} : Cuts o l k L e → Cuts o l (k + 1) (L ++ [k + 1]) (k + 1)
def fstW : W → Option W := fun v => match v with
  | .tup [.int i, .str _] => some (.int i)
  | _ => none
theorem cuts_ex {o : Wo} {l : List St} : ∀ k, k + 1 ≤ l.length → ∃ L e, Cuts o l k L e ∧ L.map (fun (i : Nat) => W.int i) = .int 0 :: (comL o l k).filterMap fstW
  | 0, _ => ⟨[0], 0, .nil, rfl⟩
  | k + 1, hk => by
    obtain ⟨L, e, h1, h2⟩ := cuts_ex (o := o) (l := l) k (by omega)
    have a1 : l[k]? = some (l[k]'(by omega)) := List.getElem?_eq_getElem _
    have a2 : l[k + 1]? = some (l[k + 1]'(by omega)) := List.getElem?_eq_getElem _
    generalize l[k]'(by omega) = p at a1
    generalize l[k + 1]'(by omega) = q at a2
    rw [comL_succ o l a1 a2, List.filterMap_append]
    cases e2 : comAt o (k + 1) p q with
    | none =>
      refine ⟨L, e, .no h1 fun p' q' g1 g2 z g => ?_, by simpa using h2⟩
      rw [a1] at g1
      rw [a2] at g2
      cases g1
      cases g2
      have := (comAt_ix (o := o) (i := k + 1) (a := p) (b := q)).mpr ⟨z, g, rfl⟩
      rw [e2] at this
      cases this
    | some w =>
      obtain ⟨z, g, rfl⟩ := comAt_ix.mp e2
      exact ⟨L ++ [k + 1], k + 1, .yes h1, by simp [h2, fstW]⟩
theorem Cuts.ok {o : Wo} {l : List St} {k e : Nat} {L : List Nat} (h : Cuts o l k L e) : e ≤ k ∧ (∃ L0, L = L0 ++ [e]) ∧ (∀ i, e ≤ i → i < k → NoC o l i) ∧ ∀ j a b, L[j]? = some a → L[j + 1]? = some b → a ≤ b ∧ b ≤ k ∧ ∀ i, a ≤ i → i + 1 < b → NoC o l i := by
  induction h with
  | nil => exact ⟨Nat.le_refl _, ⟨[], rfl⟩, fun i _ h => by omega, fun j a b h1 h2 => by simp at h2⟩
  | @no k e L h hn ih =>
    obtain ⟨i1, i2, i3, i4⟩ := ih
    refine ⟨by omega, i2, fun i h1 h2 => ?_, fun j a b h1 h2 => ?_⟩
    · by_cases hi : i = k
      · rw [hi]; exact hn
      · exact i3 i h1 (by omega)
    · obtain ⟨g1, g2, g3⟩ := i4 j a b h1 h2
      exact ⟨g1, by omega, g3⟩
  | @yes k e L h ih =>
    obtain ⟨i1, ⟨L0, rfl⟩, i3, i4⟩ := ih
    refine ⟨Nat.le_refl _, ⟨L0 ++ [e], rfl⟩, fun i h1 h2 => by omega, fun j a b h1 h2 => ?_⟩
    have hb := (List.getElem?_eq_some_iff.mp h2).1
    simp at hb
    by_cases hj : j + 1 < (L0 ++ [e]).length
    · rw [List.getElem?_append_left hj] at h2
      rw [List.getElem?_append_left (by omega)] at h1
      obtain ⟨g1, g2, g3⟩ := i4 j a b h1 h2
      exact ⟨g1, by omega, g3⟩
    · simp at hj
      have hj2 : j = L0.length := by omega
      subst hj2
      rw [List.getElem?_append_left (by simp), List.getElem?_append_right (Nat.le_refl _)] at h1
      rw [List.getElem?_append_right (by simp)] at h2
      simp at h1 h2
      subst h1 h2
      exact ⟨by omega, Nat.le_refl _, fun i g1 g2 => i3 i g1 (by omega)⟩
/-- with the row's end behind -/
theorem Cuts.end {o : Wo} {l : List St} {k e : Nat} {L : List Nat} (h : Cuts o l k L e) : ∀ j a b, (L ++ [k])[j]? = some a → (L ++ [k])[j + 1]? = some b → a ≤ b ∧ b ≤ k ∧ ∀ i, a ≤ i → i + 1 < b → NoC o l i := by
  obtain ⟨i1, ⟨L0, rfl⟩, i3, i4⟩ := h.ok
  intro j a b h1 h2
  have hb := (List.getElem?_eq_some_iff.mp h2).1
  simp at hb
  by_cases hj : j + 1 < (L0 ++ [e]).length
  · rw [List.getElem?_append_left hj] at h2
    rw [List.getElem?_append_left (by omega)] at h1
    exact i4 j a b h1 h2
  · simp at hj
    have hj2 : j = L0.length := by omega
    subst hj2
    rw [List.getElem?_append_left (by simp), List.getElem?_append_right (Nat.le_refl _)] at h1
    rw [List.getElem?_append_right (by simp)] at h2
    simp at h1 h2
    subst h1 h2
    exact ⟨i1, Nat.le_refl _, fun i g1 g2 => i3 i g1 (by omega)⟩
end Sp
end

section
set_option Elab.async false
set_option linter.all false
set_option maxRecDepth 100000
set_option maxHeartbeats 4000000
/-! Yp4: stretches. -/
namespace Sp
open Mi
variable {T : Tab} {C D : Cl} {m : Mem} {Q : W → Mem → Prop} {n : Nat}
theorem cut_midW {A : Type} {xs : List A} {i k : Nat} {a b : Int} (ha : a = i) (hb : b = k) (hik : i ≤ k) (hk : k ≤ xs.length) : cut xs (some a) (some b) = (xs.drop i).take (k - i) := by
  subst ha hb
  have h1 : ¬ ((k : Int) < 0) := by omega
  have h2 : ¬ ((i : Int) < 0) := by omega
  unfold cut cutIx
  simp only [if_neg h1, if_neg h2, Int.toNat_natCast, Nat.min_eq_left hk, Nat.min_eq_left (Nat.le_trans hik hk)]
theorem cut_sufW {A : Type} {xs : List A} {i : Nat} {a : Int} (ha : a = i) (hk : i ≤ xs.length) : cut xs (some a) none = xs.drop i := by
  subst ha
  have h2 : ¬ ((i : Int) < 0) := by omega
  unfold cut cutIx
  simp only [if_neg h2, Int.toNat_natCast, Nat.min_eq_left hk]
  rw [List.take_of_length_le (by rw [List.length_drop]; omega)]
theorem r_slcXW {x : Tx} {l u : Option Int} (h : x.length ≤ SL) : Rwp (slcW (.str x) l u m) Q = Q (.str (cut x l u)) m := by
  simp only [slcW, if_pos h]
  rfl
theorem spW_dat : ∀ v : St, (toD m 19 (spW v)).isSome = true
  | none => rfl
  | some ((r, c), t) => rfl
theorem sps_dat (l : List St) : (optL (toD m 19) (l.map spW)).isSome = true := optL_isSome fun a ha => by
  obtain ⟨v, _, rfl⟩ := List.mem_map.mp ha
  exact spW_dat v
structure L19 (T : Tab) : Prop where
  t58 : T.fn 58 = some MB.b58_spots_of
  t59 : T.fn 59 = some MB.b59_stretch_right
  t60 : T.fn 60 = some MB.b60_right
  t61 : T.fn 61 = some MB.b61_law
theorem sp_spotsof (L : L19 T) (hn : 1 ≤ n) {p : Nat} {l : List St} (h : m[p]? = some (.lst (l.map stW))) (hz : l.length ≤ 100000) (hq : ∀ q m', Ext m m' → m'[q]? = some (.lst (l.map spW)) → Q (.obj q) m') : Rwp (callN T n 58 [.obj p] m) Q := by
  obtain ⟨n, rfl⟩ : ∃ k, n = k + 1 := ⟨n - 1, by omega⟩
  refine call_wp L.t58 rfl ?_
  simp [MB.b58_spots_of]
  rw [w_lc]
  simp [srcOf, h]
  refine lc_pure (ws := l.map stW) (fun v => match v with | .tup [p, _] => some p | _ => some .non) (by rw [len_lv h]; omega) (by simp only [SL, List.length_map]; omega) (fun acc z => sees_lv (app_at h)) (fun i w acc z P hw hP => ?_) (fun z => ?_)
  · obtain ⟨s, hs, rfl⟩ := List.mem_map.mp (List.mem_of_getElem? hw)
    have hP2 := hP z
    generalize m ++ Ob.lst acc :: z = M2 at hP2 ⊢
    unfold lcB1
    cases s with
    | none =>
      simp [asgT, wipeE, stW, isNon] at hP2 ⊢
      exact hP2
    | some s =>
      obtain ⟨⟨r, c⟩, t⟩ := s
      simp [asgT, wipeE, stW, isNon, getI_nat] at hP2 ⊢
      exact hP2
  · have e : (l.map stW).filterMap (fun v => match v with | .tup [p, _] => some p | _ => some W.non) = l.map spW := by
      rw [List.filterMap_map]
      clear hq h hz
      induction l with
      | nil => rfl
      | cons s l ih =>
        rw [List.filterMap_cons, List.map_cons, ih]
        cases s with
        | none => rfl
        | some s => obtain ⟨⟨r, c⟩, t⟩ := s; rfl
    rw [e]
    exact hq _ _ ⟨_, rfl⟩ app_new
theorem sub_list {l : List St} {i k : Nat} {j : Nat} {v : St} (h : ((l.drop i).take (k - i))[j]? = some v) : i + j < k ∧ l[i + j]? = some v := by
  have h1 := (List.getElem?_eq_some_iff.mp h).1
  rw [List.length_take, List.length_drop] at h1
  rw [List.getElem?_take_of_lt (by omega), List.getElem?_drop] at h
  exact ⟨by omega, h⟩
structure St19 (p st : Nat) (x : Tx) (low high : Nat) (r c : Int) (t : Tx) (m : Mem) (e : Env) (m' : Mem) : Prop where
  mem : m' = m
  env : ∃ a7, e = [some (.obj p), some (.obj st), some (.str x), some (.int low), some (.int high), some (.tup [.int r, .int c]), some (.str t), a7, none]
theorem sp_stretch (K : FlOk T C) (U : TuOk T) (V : WoOk T D) (M : WmOk T C D) (Y : WyOk T D) (L : L19 T) (hn : 12 ≤ n) {p st : Nat} {o : Wo} {s0 s a : St} {bk : List (W × W)} (O : o.Ok bk) (hw : WdX m p (plainO o) s0) {x : Tx} {l : List St} (hr : Run o s x l a) (hs : okSt o s) (hx : ∀ c ∈ x, c ∈ urdl) (hz : x.length ≤ 1000) (hl : m[st]? = some (.lst (l.map stW)))
    {low high : Nat} (h1 : low ≤ high) (h2 : high ≤ x.length) (hn2 : ∀ j, low ≤ j → j + 1 < high → NoC o l j) (hq : ∀ m', Ext m m' → Q (.bl true) m') : Rwp (callN T n 59 [.obj p, .obj st, .str x, .int low, .int high] m) Q := by
  obtain ⟨n, rfl⟩ : ∃ k, n = k + 1 := ⟨n - 1, by omega⟩
  refine call_wp L.t59 rfl ?_
  have hlen := hr.len
  have a1 : l[low]? = some (l[low]'(by omega)) := List.getElem?_eq_getElem _
  generalize l[low]'(by omega) = v at a1
  have g1 : getI (l.map stW) (low : Int) = some (stW v) := by
    rw [getI_nat (by omega), Int.toNat_natCast, List.getElem?_map, a1] <;> rfl
  have hh1 : ((high : Int) + 1) = (high + 1 : Nat) := by omega
  simp [MB.b59_stretch_right, r_idxL hl, g1]
  cases v with
  | none =>
    simp [stW, isNon]
    rw [w_lc]
    simp [w_slc, CE.isN, part]
    rw [r_slcL hl, cut_midW (i := low) (k := high + 1) rfl hh1 (by omega) (by simp; omega), ← List.map_drop, ← List.map_take]
    have hn3 : (m ++ [Ob.lst (((l.drop low).take (high + 1 - low)).map stW)])[m.length]? = some (.lst (((l.drop low).take (high + 1 - low)).map stW)) := app_new
    have hE : Ext m (m ++ [Ob.lst (((l.drop low).take (high + 1 - low)).map stW)]) := ⟨_, rfl⟩
    generalize m ++ [Ob.lst (((l.drop low).take (high + 1 - low)).map stW)] = m1 at hn3 hE ⊢
    have hsz : ((l.drop low).take (high + 1 - low)).length ≤ 2000 := by rw [List.length_take, List.length_drop]; omega
    simp [srcOf, hn3]
    refine lc_pure (ws := ((l.drop low).take (high + 1 - low)).map stW) (fun _ => some (.bl true)) (by rw [len_lv hn3]; omega) (by simp only [SL, List.length_map]; omega) (fun acc z => sees_lv (app_at hn3)) (fun i w acc z P hw2 hP => ?_) (fun z => ?_)
    · have hP2 := hP z
      generalize m1 ++ Ob.lst acc :: z = M2 at hP2 ⊢
      rw [List.getElem?_map, Option.map_eq_some_iff] at hw2
      obtain ⟨v, hv, rfl⟩ := hw2
      obtain ⟨q1, q2⟩ := sub_list hv
      have q3 := run_lost hr a1 i (by omega)
      rw [q3] at q2
      cases q2
      unfold lcB1
      simp [asgT, wipeE, stW, isNon]
      exact hP2
    · rw [r_all app_new fun u hu => ?_]
      · exact hq _ (hE.trans ⟨_, rfl⟩)
      · obtain ⟨_, _, e⟩ := List.mem_filterMap.mp hu
        exact (Option.some.inj e).symm
  | some v =>
    obtain ⟨⟨r, c⟩, t⟩ := v
    have hok := hr.okAll O hs
    have hv := hok _ (List.mem_of_getElem? a1)
    simp [stW, isNon, asgT, asgL]
    rw [s_for]
    simp [w_slc, CE.isN, part]
    rw [r_slcL hl, cut_midW (i := low) (k := high) rfl rfl (by omega) (by simp; omega), ← List.map_drop, ← List.map_take]
    have hn3 : (m ++ [Ob.lst (((l.drop low).take (high - low)).map stW)])[m.length]? = some (.lst (((l.drop low).take (high - low)).map stW)) := app_new
    have hE : Ext m (m ++ [Ob.lst (((l.drop low).take (high - low)).map stW)]) := ⟨_, rfl⟩
    have hl1 := app_at (g := [Ob.lst (((l.drop low).take (high - low)).map stW)]) hl
    have hw1 := hw.keep (m' := m ++ [Ob.lst (((l.drop low).take (high - low)).map stW)]) (Ext.keep ⟨_, rfl⟩)
    generalize m ++ [Ob.lst (((l.drop low).take (high - low)).map stW)] = m1 at hn3 hE hl1 hw1 ⊢
    simp [srcOf, hn3]
    refine for_wp (ws := ((l.drop low).take (high - low)).map stW) (fun i e m' => St19 p st x low high r c t m1 e m') (by rw [len_lv hn3]; omega) ⟨rfl, _, rfl⟩ (fun i e m' I => by rw [I.mem]; exact sees_lv hn3) (fun i w e m' hw2 I => ?_) (fun e m' I => ?_)
    · obtain ⟨rfl, a7, rfl⟩ := I
      rw [List.getElem?_map, Option.map_eq_some_iff] at hw2
      obtain ⟨v, hv2, rfl⟩ := hw2
      obtain ⟨q1, q2⟩ := sub_list hv2
      unfold forB
      rcases run_turns O hr a1 h2 hn2 i q1 with z | ⟨r', c', z⟩
      · rw [z] at q2
        cases q2
        simp [asgT, stW, isNon]
        exact ⟨rfl, _, rfl⟩
      · rw [z] at q2
        cases q2
        simp [asgT, stW, isNon, getI_nat]
        exact ⟨rfl, _, rfl⟩
    · obtain ⟨rfl, a7, rfl⟩ := I
      have h3 : okSt (plainO o) (some ((r, c), urdl)) := ⟨hv.1, by decide⟩
      obtain ⟨fs, hp1⟩ := hw1.at_
      simp [w_meth, hp1, V.c, Y.m14]
      refine sp_begun (s := some ((r, c), urdl)) K U V M Y (by omega) hw1 h3 fun q m2 hE2 hw2 hq2 => ?_
      obtain ⟨fs2, hp2⟩ := hw2.at_
      simp [w_meth, hp2, V.c, V.m9, w_slc, CE.isN, part]
      rw [r_slcXW (by simp only [SL]; omega), cut_midW (i := low) (k := high) rfl rfl h1 h2]
      have hy : ∀ c ∈ (x.drop low).take (high - low), c ∈ urdl := fun c hc => hx c (List.mem_of_mem_drop (List.mem_of_mem_take hc))
      have hyz : ((x.drop low).take (high - low)).length ≤ 1000 := by rw [List.length_take, List.length_drop]; omega
      refine sp_rowturned U (by omega) hv.2 hy (by omega) fun m3 hE3 => ?_
      refine sp_walkX K U V (by omega) (hw2.keep hE3.keep) (fun c hc => by obtain ⟨d, hd, rfl⟩ := List.mem_map.mp hc; exact tw_deed hv.2 (hy d hd)) (by rw [List.length_map]; omega) fun l2 a2 q4 m4 hr2 hE4 hl4 => ?_
      have hl2len := hr2.len
      rw [List.length_map, List.length_take, List.length_drop] at hl2len
      refine sp_spotsof L (by omega) hl4 (by omega) fun q5 m5 hE5 hl5 => ?_
      have hl15 := hE5.at (hE4.at (hE3.at (hE2.at hl1)))
      rw [r_slcL hl15, cut_midW (i := low) (k := high + 1) rfl hh1 (by omega) (by simp; omega), ← List.map_drop, ← List.map_take]
      refine sp_spotsof L (by omega) app_new (by rw [List.length_take, List.length_drop]; omega) fun q6 m6 hE6 hl6 => ?_
      have hl56 := hE6.at (app_at hl5)
      have el : l2.map spW = ((l.drop low).take (high + 1 - low)).map spW := by
        have hst := run_stretch O hw.ok hr hs hx a1 h1 h2 hn2 hr2
        refine List.ext_getElem? fun j => ?_
        rw [List.getElem?_map, List.getElem?_map]
        by_cases hj : j ≤ high - low
        · rw [hst j hj, List.getElem?_take_of_lt (by omega), List.getElem?_drop]
          cases l[low + j]? with
          | none => rfl
          | some v => simp [sp_plainS]
        · rw [List.getElem?_eq_none (by omega), List.getElem?_eq_none (by rw [List.length_take, List.length_drop]; omega)]
      rw [el] at hl56
      simp only [cmpop, eqW_lsts hl56 hl6 (sps_dat _)]
      simp
      exact hq _ (((((hE.trans hE2).trans hE3).trans hE4).trans hE5).trans ((Ext.refl _).app.trans hE6))
end Sp
end

section
set_option Elab.async false
set_option linter.all false
set_option maxRecDepth 100000
set_option maxHeartbeats 4000000
/-! Yp5: the run of law k19. -/
namespace Sp
open Mi
variable {T : Tab} {C D : Cl} {m : Mem} {Q : W → Mem → Prop} {n : Nat}
theorem r_addLW {k l : Nat} {xs ys : List W} (h : m[k]? = some (.lst xs)) (g : m[l]? = some (.lst ys)) (hz : xs.length + ys.length ≤ SL) : Rwp (binop .add (.obj k) (.obj l) m) Q = Q (.obj m.length) (m ++ [.lst (xs ++ ys)]) := by
  simp only [binop, isLst, h, g, if_pos hz]
  rfl
structure R19 (p pl q : Nat) (x : Tx) (st cu : Nat) (M : Mem) (e : Env) (m' : Mem) : Prop where
  ext : Ext M m'
  env : ∃ a6 a7 a8 a9, e = [some (.obj p), some (.obj pl), some (.obj q), some (.str x), some (.obj st), some (.obj cu), a6, a7, a8, a9]
theorem sp_right19 (K : FlOk T C) (U : TuOk T) (V : WoOk T D) (M : WmOk T C D) (Y : WyOk T D) (L : L19 T) (hn : 13 ≤ n) {p pl q tp pg gl : Nat} {P : Plan} {s0 : St} (hP : P.Ok) (hw : WdX m p P.wo s0) (hp : WdX m pl (plainO P.wo) (plainS s0)) (hq : PlanAt m q tp pg gl P) {x : Tx} (hx : ∀ c ∈ x, c ∈ urdl) (hz : x.length ≤ 1000)
    (hQ : ∀ m', Ext m m' → Q (.bl true) m') : Rwp (callN T n 60 [.obj p, .obj pl, .obj q, .str x] m) Q := by
  obtain ⟨n, rfl⟩ : ∃ k, n = k + 1 := ⟨n - 1, by omega⟩
  refine call_wp L.t60 rfl ?_
  obtain ⟨fs, hp0⟩ := hw.at_
  simp [MB.b60_right, w_meth, hp0, V.c, V.m9]
  refine sp_walkX K U V (by omega) hw hx (by omega) fun l a st m1 hr hE1 hl1 => ?_
  have hlen := hr.len
  have hok := hr.okAll hw.ok hw.st
  have hw1 := hw.keep hE1.keep
  have hp1 := hp.keep hE1.keep
  have hq1 := hq.keep hE1.keep
  obtain ⟨fs1, hp01⟩ := hw1.at_
  obtain ⟨fs2, hp02⟩ := hp1.at_
  simp [hp02, hp01, V.c, V.m9, Y.m15, w_meth]
  refine sp_ways K U V Y (by omega) hw1 hx hz fun l' a' m2 hr' hE2 => ?_
  obtain ⟨e1, _⟩ := hr.uniq hw.ok hr'
  subst e1
  have hwl : (waysT l x).length = x.length := waysT_len (by omega)
  refine sp_walkX K U V (by omega) (hp1.keep hE2.keep) (waysT_deeds hok hx) (by omega) fun l2 a2 q3 m3 hr2 hE3 hl3 => ?_
  have hrp := run_plain hw.ok hr hw.st hx
  obtain ⟨e2, _⟩ := hrp.uniq hp.ok hr2
  subst e2
  refine sp_spotsof L (by omega) hl3 (by rw [List.length_map]; omega) fun q4 m4 hE4 hl4 => ?_
  have hl14 := hE4.at (hE3.at (hE2.at hl1))
  refine sp_spotsof L (by omega) hl14 (by omega) fun q5 m5 hE5 hl5 => ?_
  have el : (l.map plainS).map spW = l.map spW := by
    rw [List.map_map]
    exact List.map_congr_left fun s _ => sp_plainS s
  rw [el] at hl4
  have hl45 := hE5.at hl4
  simp only [cmpop, eqW_lsts hl45 hl5 (sps_dat _)]
  have E15 : Ext m1 m5 := ((hE2.trans hE3).trans hE4).trans hE5
  have E5 := hE1.trans E15
  have hl15 := E15.at hl1
  have hw5 := hw1.keep E15.keep
  have hp5 := hp1.keep E15.keep
  have hq5 := hq1.keep E15.keep
  simp
  clear hl14 hl3 hl4 hl5 hl45 hE2 hE3 hE4 hE5 hl1 hrp hr2 hw1 hp1 hq1 E15 hp0 hp01 hp02
  -- the cuts
  rw [w_lc]
  have hn5 : (m5 ++ [Ob.lst [W.int 0]])[m5.length]? = some (.lst [W.int 0]) := app_new
  have E6 : Ext m (m5 ++ [Ob.lst [W.int 0]]) := E5.app
  have hl6 : (m5 ++ [Ob.lst [W.int 0]])[st]? = some (.lst (l.map stW)) := app_at hl15
  have hw6 := hw5.keep (m' := m5 ++ [Ob.lst [W.int 0]]) (Ext.keep ⟨_, rfl⟩)
  have hp6 := hp5.keep (m' := m5 ++ [Ob.lst [W.int 0]]) (Ext.keep ⟨_, rfl⟩)
  have hq6 := hq5.keep (m' := m5 ++ [Ob.lst [W.int 0]]) (Ext.keep ⟨_, rfl⟩)
  generalize m5 ++ [Ob.lst [W.int 0]] = m6 at hn5 E6 hl6 hw6 hp6 hq6 ⊢
  obtain ⟨fs6, hp06⟩ := hw6.at_
  simp [w_meth, hp06, V.c, V.m11]
  refine sp_comingsX K U V (by omega) hw6 hx (by omega) fun l7 a7 q7 m7 hr7 hE7 hl7 => ?_
  obtain ⟨e7, _⟩ := hr.uniq hw.ok hr7
  subst e7
  simp [srcOf, hl7]
  have hcl := comL_len P.wo l x.length
  refine lc_pure (ws := comL P.wo l x.length) fstW (by rw [len_lv hl7]; omega) (by simp only [SL]; omega) (fun acc z => sees_lv (app_at hl7)) (fun i w acc z' P' hw2 hP' => ?_) (fun z' => ?_)
  · obtain ⟨i', p', q', d, _, _, _, _, rfl⟩ := comL_mem (List.mem_of_getElem? hw2)
    have hP2 := hP' z'
    generalize m7 ++ Ob.lst acc :: z' = M2 at hP2 ⊢
    unfold lcB1
    simp [asgT, asgL, wipeE]
    exact hP2
  · have hn8 : (m7 ++ Ob.lst ((comL P.wo l x.length).filterMap fstW) :: z')[m7.length]? = some (.lst ((comL P.wo l x.length).filterMap fstW)) := app_new
    have E8 : Ext m6 (m7 ++ Ob.lst ((comL P.wo l x.length).filterMap fstW) :: z') := hE7.trans ⟨_, rfl⟩
    have hn58 := E8.at hn5
    generalize m7 ++ Ob.lst ((comL P.wo l x.length).filterMap fstW) :: z' = m8 at hn8 E8 hn58 ⊢
    have hfl : ((comL P.wo l x.length).filterMap fstW).length ≤ x.length := Nat.le_trans (List.length_filterMap_le _ _) hcl
    rw [r_addLW hn58 hn8 (by simp only [SL, List.length_cons, List.length_nil]; omega)]
    obtain ⟨Lc, e, hc1, hc2⟩ := cuts_ex (o := P.wo) (l := l) x.length (by omega)
    have ec : [W.int 0] ++ (comL P.wo l x.length).filterMap fstW = Lc.map (fun (i : Nat) => W.int i) := by rw [hc2] <;> rfl
    rw [ec]
    have hLl : Lc.length ≤ x.length + 1 := by
      have := congrArg List.length hc2
      simp only [List.length_map, List.length_cons] at this
      omega
    rw [r_lenX (by simp only [SL]; omega)]
    have hn9 : (m8 ++ [Ob.lst (Lc.map fun (i : Nat) => W.int i), Ob.lst [W.int x.length]])[m8.length]? = some (.lst (Lc.map fun (i : Nat) => W.int i)) := app_new
    have hn9b : (m8 ++ [Ob.lst (Lc.map fun (i : Nat) => W.int i), Ob.lst [W.int x.length]])[m8.length + 1]? = some (.lst [W.int x.length]) := by rw [List.getElem?_append_right (by omega)]; simp
    simp
    rw [r_addLW hn9 hn9b (by simp only [SL, List.length_map, List.length_cons, List.length_nil]; omega)]
    have ec2 : (Lc.map fun (i : Nat) => W.int i) ++ [W.int x.length] = (Lc ++ [x.length]).map fun (i : Nat) => W.int i := by simp
    rw [ec2]
    have hcu : (m8 ++ [Ob.lst (Lc.map fun (i : Nat) => W.int i), Ob.lst [W.int x.length]] ++ [Ob.lst ((Lc ++ [x.length]).map fun (i : Nat) => W.int i)])[(m8 ++ [Ob.lst (Lc.map fun (i : Nat) => W.int i), Ob.lst [W.int x.length]]).length]? = some (.lst ((Lc ++ [x.length]).map fun (i : Nat) => W.int i)) := app_new
    have E9 : Ext m6 (m8 ++ [Ob.lst (Lc.map fun (i : Nat) => W.int i), Ob.lst [W.int x.length]] ++ [Ob.lst ((Lc ++ [x.length]).map fun (i : Nat) => W.int i)]) := E8.app.app
    generalize (m8 ++ [Ob.lst (Lc.map fun (i : Nat) => W.int i), Ob.lst [W.int x.length]]).length = cu at hcu ⊢
    generalize m8 ++ [Ob.lst (Lc.map fun (i : Nat) => W.int i), Ob.lst [W.int x.length]] ++ [Ob.lst ((Lc ++ [x.length]).map fun (i : Nat) => W.int i)] = m9 at hcu E9 ⊢
    rw [s_for]
    simp [w_slc, CE.isN, part, -List.map_append]
    rw [r_slcL hcu, cut_sufW (a := 1) (i := 1) rfl (by simp only [List.length_map, List.length_append, List.length_cons, List.length_nil]; omega), ← List.map_drop]
    have hcu2 : (m9 ++ [Ob.lst (((Lc ++ [x.length]).drop 1).map fun (i : Nat) => W.int i)])[cu]? = some (.lst ((Lc ++ [x.length]).map fun (i : Nat) => W.int i)) := app_at hcu
    have hcu3 : (m9 ++ [Ob.lst (((Lc ++ [x.length]).drop 1).map fun (i : Nat) => W.int i)])[m9.length]? = some (.lst (((Lc ++ [x.length]).drop 1).map fun (i : Nat) => W.int i)) := app_new
    have E10 : Ext m6 (m9 ++ [Ob.lst (((Lc ++ [x.length]).drop 1).map fun (i : Nat) => W.int i)]) := E9.app
    generalize m9 ++ [Ob.lst (((Lc ++ [x.length]).drop 1).map fun (i : Nat) => W.int i)] = m10 at hcu2 hcu3 E10 ⊢
    generalize m9.length = cd at hcu3 ⊢
    have hl10 := E10.at hl6
    have hw10 := hw6.keep E10.keep
    have hp10 := hp6.keep E10.keep
    have hq10 := hq6.keep E10.keep
    simp only [srcOf, hcu2, hcu3, optP_some]
    refine for_wp (ws := zipW ((Lc ++ [x.length]).map fun (i : Nat) => W.int i) (((Lc ++ [x.length]).drop 1).map fun (i : Nat) => W.int i)) (fun i e m' => R19 p pl q x st cu m10 e m') (by rw [zipW_len]; simp [Src.len, Bs.len, hcu2]; omega) ⟨Ext.refl _, _, _, _, _, rfl⟩ (fun i e m' I => sees_zip (sees_lv (I.ext.at hcu2)) (sees_lv (I.ext.at hcu3))) (fun i w e m' hw2 I => ?_) (fun e m' I => ?_)
    · obtain ⟨E11, b6, b7, b8, b9, rfl⟩ := I
      obtain ⟨lo, hi, e1, e2, rfl⟩ : ∃ lo hi : Nat, (Lc ++ [x.length])[i]? = some lo ∧ (Lc ++ [x.length])[i + 1]? = some hi ∧ w = .tup [.int lo, .int hi] := by
        simp only [zipW, List.getElem?_zipWith, List.getElem?_map, List.getElem?_drop] at hw2
        rw [Nat.add_comm 1 i] at hw2
        cases e1 : (Lc ++ [x.length])[i]? with
        | none => rw [e1] at hw2; simp at hw2
        | some lo => cases e2 : (Lc ++ [x.length])[i + 1]? with
          | none => rw [e1, e2] at hw2; simp at hw2
          | some hi =>
            rw [e1, e2] at hw2
            simp at hw2
            exact ⟨lo, hi, rfl, rfl, hw2.symm⟩
      obtain ⟨c1, c2, c3⟩ := hc1.end i lo hi e1 e2
      unfold forB
      simp [asgT, asgL]
      refine sp_stretch K U V M Y L (by omega) hw.ok (hp10.keep E11.keep) hr hw.st hx hz (E11.at hl10) c1 c2 c3 fun m12 hE12 => ?_
      simp
      exact ⟨E11.trans hE12, _, _, _, _, rfl⟩
    · obtain ⟨E11, b6, b7, b8, b9, rfl⟩ := I
      have hw11 := hw10.keep E11.keep
      obtain ⟨fs11, hp011⟩ := hw11.at_
      rw [s_for]
      simp [w_meth, hp011, V.c, V.m11]
      refine sp_comingsX K U V (by omega) hw11 hx (by omega) fun l12 a12 q12 m12 hr12 hE12 hl12 => ?_
      obtain ⟨e12, _⟩ := hr.uniq hw.ok hr12
      subst e12
      simp [srcOf, hl12]
      have E12 : Ext m10 m12 := E11.trans hE12
      refine for_wp (ws := comL P.wo l x.length) (fun i e m' => R19 p pl q x st cu m12 e m') (by rw [len_lv hl12]; omega) ⟨Ext.refl _, _, _, _, _, rfl⟩ (fun i e m' I => sees_lv (I.ext.at hl12)) (fun i w e m' hw2 I => ?_) (fun e m' I => ?_)
      · obtain ⟨E13, d6, d7, d8, d9, rfl⟩ := I
        obtain ⟨i', p', q', z, hi', g1, g2, g3, rfl⟩ := comL_mem (List.mem_of_getElem? hw2)
        obtain ⟨ch, hch, st'⟩ := hr.stepAt g1 g2
        obtain ⟨r, c, r', c', t, rfl, rfl, g4, g5, g6, g7⟩ := com_step hw.ok st' g3
        have hl13 := E13.at (E12.at hl10)
        have hq13 := (hq10.keep E12.keep).keep E13.keep
        have ht := (hok _ (List.mem_of_getElem? g1)).2
        have hzl : z ∈ lettersOf P.Ts := letter_of hP.fl g7 g6
        have k1 : getI (l.map stW) ((i' : Int) + 1) = some (.tup [.tup [.int r', .int c'], .str (t.map (tw (P.β z)))]) := by
          rw [getI_nat (by omega), show ((i' : Int) + 1).toNat = i' + 1 by omega, List.getElem?_map, g2] <;> rfl
        have k2 : getI (l.map stW) (i' : Int) = some (.tup [.tup [.int r, .int c], .str t]) := by
          rw [getI_nat (by omega), Int.toNat_natCast, List.getElem?_map, g1] <;> rfl
        have e1 : ((i' : Int) + 1 - 1) = i' := by omega
        unfold forB
        simp [asgT, asgL]
        rw [r_idxL hl13, k1]
        simp [getI_nat]
        rw [r_idxL hl13, k2]
        simp [getI_nat]
        rw [r_idxA (dctAt_dct hq13.at_) rfl]
        simp
        rw [r_idxA hq13.pag.at rfl, show getK P.bk (.str [z]) = some (.str (P.β z)) from book_get hzl]
        simp
        refine sp_then U (by omega) ht (hP.bt z hzl) fun m14 hE14 => ?_
        simp
        exact ⟨E13.trans hE14, _, _, _, _, rfl⟩
      · obtain ⟨E13, d6, d7, d8, d9, rfl⟩ := I
        exact hQ _ (((E6.trans E10).trans E12).trans E13)
end Sp
end

section
set_option Elab.async false
set_option linter.all false
set_option maxRecDepth 100000
set_option maxHeartbeats 4000000
/-! Yp6: the run of law k19. -/
namespace Sp
open Mi
variable {T : Tab} {C D : Cl} {m : Mem} {Q : W → Mem → Prop} {n : Nat}
theorem wdx_made {q f pq : Nat} {P : Plan} (ok : P.Ok) (h : WdAt m q f pq P.wo P.bk (.tup (srtB codeW P.gs)) (.tup [.int P.r, .int P.c]) (some ((P.r, P.c), P.t))) : WdX m q P.wo (some ((P.r, P.c), P.t)) :=
  ⟨⟨f, pq, srtB codeW P.gs, P.r, P.c, h, goal_srt ok.gok, ok.opn⟩, ok.fl, ok.bt, ok.st⟩
structure Law19 (T : Tab) : Prop where
  t0 : T.fn 0 = some MB.b0_spots
  t10 : T.fn 10 = some MB.b10_source
  t41 : T.fn 41 = some MB.b41_made
  t43 : T.fn 43 = some MB.b43_deeds
  t45 : T.fn 45 = some MB.b45_swing
  t46 : T.fn 46 = some MB.b46_plan
structure M19 (ns : List Int) (M : Mem) (e : Env) (m' : Mem) : Prop where
  keep : Keep M m'
  env : ∃ a1 a2 a3 a4 a5 a6, e = [some (.frz ns), a1, a2, a3, a4, a5, a6]
structure N19 (ns : List Int) (seed : Int) (m0 : Mem) (j p tp pg gl q pl : Nat) (P : Plan) (K0 i : Nat) (e : Env) (m' : Mem) : Prop where
  src : SrcB m' j (K0 + 30 * i)
  frm : Frm m0 j m'
  pla : PlanAt m' p tp pg gl P
  one : WdX m' q P.wo (some ((P.r, P.c), P.t))
  pln : WdX m' pl (plainO P.wo) (plainS (some ((P.r, P.c), P.t)))
  env : ∃ a6, e = [some (.frz ns), some (.int seed), some (.obj j), some (.obj p), some (.obj q), some (.obj pl), a6]
theorem sp_law19 (K : FlOk T C) (U : TuOk T) (V : WoOk T D) (M : WmOk T C D) (X : TexOk T) (Y : WyOk T D) (L : L19 T) (A : Law19 T) (hn : 14 ≤ n) {ns : List Int} (hl : ns.length ≤ 63) : Rwp (callN T n 61 [.frz ns] []) (fun w _ => w = .bl true) := by
  obtain ⟨n, rfl⟩ : ∃ k, n = k + 1 := ⟨n - 1, by omega⟩
  refine call_wp L.t61 rfl ?_
  simp [MB.b61_law]
  rw [s_for]
  simp [w_slc, CE.isN, part]
  rw [r_addF (ys := [.int 0]) (by rfl) (by simp [SL]; omega)]
  simp
  rw [r_slcL (ws := ns.map W.int ++ [.int 0]) (by rfl)]
  have hcl := cut_len (ws := ns.map W.int ++ [.int 0]) (l := none) (u := some 3)
  have hcm : ∀ v ∈ cut (ns.map W.int ++ [.int 0]) none (some 3), ∃ i, v = .int i := by
    intro v hv
    rcases List.mem_append.mp (cut_mem hv) with h | h
    · obtain ⟨i, _, rfl⟩ := List.mem_map.mp h
      exact ⟨i, rfl⟩
    · exact ⟨0, by simpa using h⟩
  simp only [List.length_append, List.length_map, List.length_singleton] at hcl
  generalize cut (ns.map W.int ++ [.int 0]) none (some 3) = us at hcl hcm ⊢
  generalize hM : ([Ob.lst [W.int 0], Ob.lst (ns.map W.int ++ [W.int 0])] : Mem) = M0
  have hM1 : (M0 ++ [Ob.lst us])[M0.length]? = some (.lst us) := app_new
  generalize M0 ++ [Ob.lst us] = M1 at hM1 ⊢
  simp [srcOf, hM1]
  refine for_wp (ws := us) (fun i e m' => M19 ns M1 e m') (by rw [len_lv hM1]; omega) ⟨Keep.refl _, _, _, _, _, _, _, rfl⟩ (fun i e m' I => sees_lv (I.keep _ _ hM1)) (fun i x e m' hx I => ?_) (fun e m' I => trivial)
  obtain ⟨seed, rfl⟩ := hcm x (List.mem_of_getElem? hx)
  obtain ⟨hK, a1, a2, a3, a4, a5, a6, rfl⟩ := I
  unfold forB
  simp [asgT]
  refine sp_source A.t10 (by omega) ?_
  refine sp_texts2 X (by omega) (k := 0) (hi := 6) (wi := 6) ⟨seed, seed, app_new⟩ (by omega) (by omega) (by omega) fun Ts tp k' m2 hT hop hp0 hp k0 k1 hs hF => ?_
  obtain ⟨h, w, g0, g1, g2, g3, g4, g5⟩ := hT
  have F : Fl Ts h w := ⟨g0, by omega, g2, by omega, g4, g5⟩
  have s2 : SrcB m2 m'.length 2000000 := ⟨k', hs, by omega, by omega⟩
  simp at hp0
  refine sp_plan X A.t0 A.t45 A.t46 (by omega) F g1 g3 hop hp s2 (by omega) (by omega) fun p pg gl P m3 ok eT hpl hdp l1 l2 l3 s3 f3 => ?_
  have hF3 := hF.trans ((Frm.refl _ _).trans f3)
  refine sp_made K U V M A.t41 (by omega) ok hpl fun q f pq m4 hE4 w4 hql hpql => ?_
  have hj2 := s2.lt
  have s4 := s3.ext hE4
  have F4 := hF3.trans (hE4.frm m'.length)
  have p4 := hpl.keep hE4.keep
  have o4 := wdx_made ok w4
  have hjt : tp ≠ m'.length := by omega
  have hjg : gl ≠ m'.length := by omega
  subst eT
  generalize hje : m'.length = j at s4 F4 hjt hjg ⊢
  -- the bookless world
  simp [w_makeK, w_make]
  rw [r_idxA (dctAt_dct p4.at_) rfl]
  simp [K.c, K.ini]
  refine sp_make K (by omega) ok.fl ok.h6 ok.w6 p4.tex fun z => ⟨rfl, ?_⟩
  have ha : FlAt (m4 ++ .ins 0 [(0, .tup (P.Ts.map W.str))] :: z) m4.length P.Ts := app_new
  have E5 : Ext m4 (m4 ++ .ins 0 [(0, .tup (P.Ts.map W.str))] :: z) := ⟨_, rfl⟩
  generalize m4 ++ .ins 0 [(0, .tup (P.Ts.map W.str))] :: z = m5 at ha E5 ⊢
  generalize m4.length = f5 at ha ⊢
  have p5 := p4.keep E5.keep
  rw [r_idxA (dctAt_dct p5.at_) rfl]
  have ep : ∀ u, permW [Pk.a 0, Pk.a 1, Pk.a 2, Pk.d 0 (.str ['u', 'r', 'd', 'l']), Pk.d 1 .non, Pk.d 2 (.tup [])] [.obj u, .obj f5, .tup [.int P.r, .int P.c]] = some [.obj u, .obj f5, .tup [.int P.r, .int P.c], .str urdl, .non, .tup []] := fun u => rfl
  simp [V.c, V.ini, ep]
  have hβ0 : ∀ l ∈ lettersOf P.Ts, (fun _ : Char => urdl) l ∈ turnsX := fun l _ => show urdl ∈ turnsX by decide
  refine sp_worldG (β := fun _ => urdl) (gs := []) K U V M (by omega) ok.fl ha ok.opn (show urdl ∈ turnsX by decide) (.inr ⟨rfl, fun _ => rfl⟩) hβ0 (.inr rfl) ⟨fun v hv => (by cases hv), .nil, by decide⟩ fun z' pg' hpl' hpg' => ⟨rfl, ?_⟩
  have E6 : Ext m5 (m5 ++ .ins 1 (wdF f5 pg' (.tup (srtB codeW [])) (.tup [.int P.r, .int P.c]) (some ((P.r, P.c), urdl))) :: z') := ⟨_, rfl⟩
  have hst0 : okSt (plainO P.wo) (plainS (some ((P.r, P.c), P.t))) := ⟨ok.st.1, show urdl ∈ turnsX by decide⟩
  have pl6 : WdX (m5 ++ .ins 1 (wdF f5 pg' (.tup (srtB codeW [])) (.tup [.int P.r, .int P.c]) (some ((P.r, P.c), urdl))) :: z') m5.length (plainO P.wo) (plainS (some ((P.r, P.c), P.t))) :=
    ⟨⟨f5, pg', srtB codeW [], P.r, P.c, ⟨app_new, app_at ha, hpg'⟩, ⟨fun v hv => (by cases hv), .nil, by decide⟩, ok.opn⟩, ok.fl, hβ0, hst0⟩
  have e0 : wdF f5 pg' (.tup (srtB codeW [])) (.tup [.int P.r, .int P.c]) (some ((P.r, P.c), ['u', 'r', 'd', 'l'])) = wdF f5 pg' (.tup (srtB codeW [])) (.tup [.int P.r, .int P.c]) (some ((P.r, P.c), urdl)) := rfl
  try rw [e0]
  generalize m5 ++ .ins 1 (wdF f5 pg' (.tup (srtB codeW [])) (.tup [.int P.r, .int P.c]) (some ((P.r, P.c), urdl))) :: z' = m6 at E6 pl6 ⊢
  generalize m5.length = plq at pl6 ⊢
  have E46 := E5.trans E6
  have s6 := s4.ext E46
  have F6 := F4.trans (E46.frm j)
  have p6 := p4.keep E46.keep
  have o6 := o4.keep E46.keep
  rw [s_for]
  simp only [wi_rng, wl_cons, wl_nil, w_int]
  rw [rng1 (j := 3) (k := 3) rfl (by omega)]
  simp only [optP_some]
  refine for_wp (ws := (List.range 3).map fun (i : Nat) => W.int i) (fun i e m' => N19 ns seed m6 j p tp pg gl q plq P 2000010 i e m') (by simp [Src.len, Bs.len]) ⟨s6, Frm.refl _ _, p6, o6, pl6, _, rfl⟩ (fun i e m' I => sees_st) (fun i x e m7 hx I => ?_) (fun e m7 I => ?_)
  · obtain ⟨s7, f7, p7, o7, pl7, b6, rfl⟩ := I
    have hi : i < 3 := by have := (List.getElem?_eq_some_iff.mp hx).1; simpa using this
    unfold forB
    simp [asgT]
    refine sp_deeds (most := 20) X A.t43 (by omega) s7 (by omega) (by omega) fun x m8 hx1 hx2 s8 f8 => ?_
    have p8 := p7.frm s7 hjt hjg f8
    have o8 := o7.frm s7 f8
    have pl8 := pl7.frm s7 f8
    refine sp_right19 K U V M Y L (by omega) ok o8 pl8 p8 hx1 (by omega) fun m9 hE9 => ?_
    simp
    exact ⟨(s8.ext hE9).le (by omega), (f7.trans f8).trans (hE9.frm j), p8.keep hE9.keep, o8.keep hE9.keep, pl8.keep hE9.keep, _, rfl⟩
  · obtain ⟨s7, f7, p7, o7, pl7, b6, rfl⟩ := I
    subst hje
    exact ⟨hK.trans (Frm.keep (F6.trans f7)), _, _, _, _, _, _, rfl⟩
end Sp
end

section
set_option Elab.async false
set_option linter.all false
set_option maxRecDepth 100000
set_option maxHeartbeats 4000000
namespace K19
open Mi
theorem flok : ∃ C, Sp.FlOk G.T C ∧ ∃ D, Sp.WoOk G.T D ∧ Sp.WmOk G.T C D ∧ Sp.WyOk G.T D := ⟨_, { t3 := rfl, t4 := rfl, t5 := rfl, t12 := rfl, t13 := rfl, t14 := rfl, t15 := rfl, t16 := rfl, t17 := rfl, t18 := rfl, t19 := rfl, t20 := rfl, t21 := rfl, t22 := rfl, c := rfl, m0 := rfl, m1 := rfl, m2 := rfl, m3 := rfl, m4 := rfl, m5 := rfl, ini := rfl, g0 := rfl, g1 := rfl, g2 := rfl, g3 := rfl, g4 := rfl, g5 := rfl, g6 := rfl, g7 := rfl }, _, { c := rfl, m9 := rfl, m11 := rfl, m12 := rfl, m13 := rfl, ini := rfl, t57 := rfl, t52 := rfl, t49 := rfl, t50 := rfl, g9 := rfl }, { t51 := rfl, t38 := rfl, t36 := rfl, t39 := rfl, t40 := rfl, t34 := rfl, t35 := rfl, m7 := rfl, m8 := rfl, m10 := rfl }, { m14 := rfl, m15 := rfl, m16 := rfl, t62 := rfl, t63 := rfl, t64 := rfl, t65 := rfl }⟩
theorem tuok : Sp.TuOk G.T := { t14 := rfl, t37 := rfl, t48 := rfl, t53 := rfl, t54 := rfl, t55 := rfl, t56 := rfl, g6 := rfl, g8 := rfl }
theorem texok : Sp.TexOk G.T := { t6 := rfl, t7 := rfl, t8 := rfl, t9 := rfl }
theorem l19 : Sp.L19 G.T := { t58 := rfl, t59 := rfl, t60 := rfl, t61 := rfl }
theorem lawok : Sp.Law19 G.T := { t0 := rfl, t10 := rfl, t41 := rfl, t43 := rfl, t45 := rfl, t46 := rfl }
theorem spec : ∀ ns : List Int, ns.length ≤ 63 → ∃ m, callN G.T 14 61 [.frz ns] [] = .ok (.bl true) m := fun ns h => by
  obtain ⟨C, K, D, V, M, Y⟩ := flok
  obtain ⟨w, m, e, rfl⟩ := (Sp.sp_law19 K tuok V M texok Y l19 lawok (n := 14) (by decide) h).ok
  exact ⟨m, e⟩
end K19
end

section
set_option maxRecDepth 100000
set_option maxHeartbeats 0
open PySem PySem.W PySem.Calls PyProof.Rows
theorem PySem.Challenge.cw_onehand_k19_whole_a_walk_is_a_bookless_o_holds : PySem.Challenge.rw_onehand_k19_whole_a_walk_is_a_bookless_o.Holds := by
  w_on; o_law
  refine HandSHeadRun.head_any (r := OpenLaw.row PySem.Challenge.rw_onehand_k19_whole_a_walk_is_a_bookless_o) (q := view (OpenLaw.row PySem.Challenge.rw_onehand_k19_whole_a_walk_is_a_bookless_o).prog [56]) (H := Mi.hookM 6 K19.G) (ob := Mi.obM 6 K19.G) (M := 9000) (loose := K19.loose) (d := HandSHeadRun.topDef (OpenLaw.row PySem.Challenge.rw_onehand_k19_whole_a_walk_is_a_bookless_o).prog 56) (kwd := []) Mi.obM_eq
    (by kernel_rfl) (fun s => by kernel_rfl) K19.run (by kernel_rfl) (by kernel_rfl) (by kernel_rfl) (by rfl) (by first | assumption | decide +kernel) (by decide +kernel) ⟨rfl, rfl, rfl, rfl, rfl, by decide +kernel⟩ ?hw ?hc
  case hw => w_witness2
  case hc => exact Mi.mi_walk (l := PySem.Challenge.rw_onehand_k19_whole_a_walk_is_a_bookless_o) (n := 14) (f := 61) (F := K19.F_law) (x := "_law_script") rfl (by kernel_rfl) rfl (by kernel_rfl) rfl rfl K19.nam K19.binds K19.kbs K19.chk ⟨rfl, by decide, by decide⟩ K19.spec
end
