import PyProof.Rows.All
import Wide.All
import OpenK.AllK
import Wide.FinOn
import KE.KStateDown
import Lean
import HandS.ForMost
import HandS.ForExc
import HandS.Deep
import HandS.SortInts
import HandS.IsInst
import HandS.Style
import HandS.Flow
import HandS.SetFor
import HandS.TupSets
import HandS.Dict
import HandS.More
import HandS.Exc
import KE.SortData
import HandS.ExcIs
import HandS.HeadHook1
import KE.KDictKeyed
import KE.KeyNested
import HandS.Text
import HandS.ExcOwn
import HandS.ExcValue
import HandS.Conv
import HandS.TryOnly
import KE.KDictDisplayH
import KE.GoesRaise
import HandS.Defaults
import HandS.HeadHook2
import HandS.HeadHook4
import HandS.HeadEnd
import HandS.Head0
import HandS.Head1
import HandS.Head2
import HandS.Codes
import PySem.Challenge.RW_turnline_k74_other_texts_that_are_none
set_option Elab.async false
set_option linter.all false
set_option maxRecDepth 100000
set_option maxHeartbeats 4000000
/-! MnA: Python's values without a heap, a small syntax and its evaluator. -/
namespace Mn
open PySem L2

/-- how a list is held: by one owner alone; read by many (tracked); read alone (the script, the module's own) -/
inductive LK where
  | own | frz | ro
  deriving DecidableEq

inductive D where
  | any | non
  | bl (b : Bool) | int (i : Int) | str (s : Str)
  | tup (ds : List D)
  | lst (k : LK) (ds : List D)
  | exc (c : Str)
  /-- a dict: its keys are whole numbers (c), or tuples; keys and values in their order -/
  | dct (k : LK) (c : Bool) (ks vs : List D)

/-- an answer, an exception by its class, or nothing told -/
inductive R (α : Type) where
  | ok (a : α) | exc (c : Str) | bad
@[reducible] def R.bind {α β : Type} : R α → (α → R β) → R β
  | .ok a, f => f a
  | .exc c, _ => .exc c
  | .bad, _ => .bad
instance : Monad R where
  pure := R.ok
  bind := R.bind
@[simp] theorem R.bind_ok {α β : Type} (a : α) (f : α → R β) : (R.ok a >>= f) = f a := rfl
@[simp] theorem R.bind_exc {α β : Type} (c : Str) (f : α → R β) : (R.exc c >>= f) = R.exc c := rfl
@[simp] theorem R.bind_bad {α β : Type} (f : α → R β) : (R.bad >>= f) = R.bad := rfl
@[simp] theorem R.pure_eq {α : Type} (a : α) : (pure a : R α) = R.ok a := rfl

mutual
/-- from now on nobody changes it -/
def D.frz : D → D
  | .tup ds => .tup (D.frzs ds)
  | .lst k ds => .lst (match k with | .own => .frz | k => k) (D.frzs ds)
  | .any => .any
  | .non => .non
  | .bl b => .bl b
  | .int i => .int i
  | .str s => .str s
  | .exc c => .exc c
  | .dct k c ks vs => .dct (match k with | .own => .frz | k => k) c ks vs
def D.frzs : List D → List D
  | [] => []
  | d :: ds => d.frz :: D.frzs ds
end
theorem D.frzs_eq : ∀ ds : List D, D.frzs ds = ds.map D.frz
  | [] => by simp [D.frzs]
  | d :: ds => by simp [D.frzs, D.frzs_eq ds]

mutual
/-- nothing within is held by another -/
def D.pur : D → Bool
  | .tup ds => D.purs ds
  | .lst k ds => (match k with | .own => true | _ => false) && D.purs ds
  | .dct k _ _ _ => (match k with | .own => true | _ => false)
  | _ => true
def D.purs : List D → Bool
  | [] => true
  | d :: ds => d.pur && D.purs ds
end
theorem D.purs_eq : ∀ ds : List D, D.purs ds = ds.all D.pur
  | [] => by simp [D.purs]
  | d :: ds => by simp [D.purs, D.purs_eq ds]

mutual
def D.toPy : D → Option PyData
  | .non => some .none
  | .bl b => some (.bool b)
  | .int i => some (.int i)
  | .str s => some (.str s)
  | .tup ds => (D.toPys ds).map .tuple
  | .lst _ ds => (D.toPys ds).map .list
  | _ => none
def D.toPys : List D → Option (List PyData)
  | [] => some []
  | d :: ds => match d.toPy, D.toPys ds with
    | some x, some xs => some (x :: xs)
    | _, _ => none
end

mutual
/-- no list, no dict within -/
def D.flat : D → Bool
  | .any => false
  | .lst _ _ => false
  | .dct _ _ _ _ => false
  | .tup ds => D.flats ds
  | _ => true
def D.flats : List D → Bool
  | [] => true
  | d :: ds => d.flat && D.flats ds
end
theorem D.flats_eq : ∀ ds : List D, D.flats ds = ds.all D.flat
  | [] => by simp [D.flats]
  | d :: ds => by simp [D.flats, D.flats_eq ds]
mutual
/-- as a key of a dict -/
def D.key : D → Option NestedKey
  | .int i => some (.num i)
  | .tup ds => match D.keys ds with
    | some l => some (.tup l)
    | none => none
  | _ => none
def D.keys : List D → Option (List NestedKey)
  | [] => some []
  | d :: ds => match d.key, D.keys ds with
    | some x, some xs => some (x :: xs)
    | _, _ => none
end
/-- a key of the dict's kind -/
def keyOk (c : Bool) : D → Bool
  | .int _ => c
  | .tup ds => !c && (match D.key (.tup ds) with
    | some z => decide (z.depth ≤ 8)
    | none => false)
  | _ => false
def dwf (c : Bool) (ks vs : List D) : Bool := ks.all (keyOk c) && D.flats vs && decide (ks.length = vs.length)
def dfind (k : Option NestedKey) : List D → List D → Option D
  | x :: ks, v :: vs => if x.key = k then some v else dfind k ks vs
  | _, _ => none
def drepl (k : Option NestedKey) (v : D) : List D → List D → List D
  | x :: ks, y :: vs => (if x.key = k then v else y) :: drepl k v ks vs
  | _, vs => vs
/-- d[k] = v -/
def dput (ks vs : List D) (k v : D) : List D × List D := if (dfind k.key ks vs).isSome then (ks, drepl k.key v ks vs) else (ks ++ [k], vs ++ [v])

/-- l * k -/
def repL (ds : List D) : Nat → List D
  | 0 => []
  | n + 1 => ds ++ repL ds n
/-- s * k -/
def repS (s : Str) (n : Nat) : Str := ⟨((List.replicate n s.cps.toList).flatten).toArray⟩
/-- the signs of a text -/
def signs (s : Str) : List D := s.cps.toList.map fun c => .str ⟨#[c]⟩
/-- the largest length -/
@[reducible] def LIM : Nat := 16777216

/-! ### operators -/
inductive Bop where
  | add | sub | mul | fdiv | mod | pow
  deriving DecidableEq
inductive Cop where
  | eq | ne | lt | le | gt | ge | isin | notin | is | isnot
  deriving DecidableEq

def okMul (i j : Int) : Bool := decide (i.natAbs < 18446744073709551616) || decide (j.natAbs < 18446744073709551616)
def okDiv (j : Int) : Bool := decide (j ≠ 0) && decide (j.natAbs < 1073741824)
def okPow (i j : Int) : Bool := decide (0 ≤ j ∧ j ≤ 1000000 ∧ i.natAbs < 2 ^ 64)

def binop : Bop → D → D → R D
  | .add, .int i, .int j => .ok (.int (i + j))
  | .add, .str s, .str t => if s.length + t.length ≤ LIM then .ok (.str (s ++ t)) else .bad
  | .add, .lst .own xs, .lst .own ys => if xs.length + ys.length ≤ LIM then .ok (.lst .own (xs ++ ys)) else .bad
  | .add, .lst .frz xs, .lst .own ys => if xs.length + ys.length ≤ LIM then .ok (.lst .own (xs ++ ys)) else .bad
  | .add, .lst .own xs, .lst .frz ys => if xs.length + ys.length ≤ LIM then .ok (.lst .own (xs ++ ys)) else .bad
  | .add, .lst .frz xs, .lst .frz ys => if xs.length + ys.length ≤ LIM then .ok (.lst .own (xs ++ ys)) else .bad
  | .sub, .int i, .int j => .ok (.int (i - j))
  | .mul, .int i, .int j => if okMul i j then .ok (.int (i * j)) else .bad
  | .mul, .lst .own ds, .int j => if D.flats ds && decide (0 ≤ j ∧ j ≤ 1000000 ∧ ds.length * j.toNat ≤ LIM) then .ok (.lst .own (repL ds j.toNat)) else .bad
  | .mul, .str s, .int j => if decide (0 ≤ j ∧ j ≤ 1000000 ∧ s.length * j.toNat ≤ LIM) then .ok (.str (repS s j.toNat)) else .bad
  | .fdiv, .int i, .int j => if okDiv j then .ok (.int (i.fdiv j)) else .bad
  | .mod, .int i, .int j => if j = 0 then .bad else .ok (.int (i.fmod j))
  | .pow, .int i, .int j => if okPow i j then .ok (.int (i ^ j.toNat)) else .bad
  | _, _, _ => .bad

def eqD (a b : D) : R Bool := match a.toPy, b.toPy with
  | some x, some y => if SeqAt.shaped x && SeqAt.shaped y then .ok (PyData.eqv x y) else .bad
  | _, _ => .bad
def inD (a : D) (ds : List D) : R Bool := match a.toPy, D.toPys ds with
  | some x, some ys => if SeqAt.shaped x && SeqAt.shaped (.list ys) then .ok (ys.any fun z => PyData.eqv z x) else .bad
  | _, _ => .bad

def cmpop : Cop → D → D → R D
  | .lt, .int i, .int j => .ok (.bl (decide (i < j)))
  | .le, .int i, .int j => .ok (.bl (decide (i ≤ j)))
  | .gt, .int i, .int j => .ok (.bl (decide (j < i)))
  | .ge, .int i, .int j => .ok (.bl (decide (j ≤ i)))
  | .eq, a, b => do
      let k ← eqD a b
      .ok (.bl k)
  | .ne, a, b => do
      let k ← eqD a b
      .ok (.bl (!k))
  | .isin, a, .lst _ ds => do
      let k ← inD a ds
      .ok (.bl k)
  | .notin, a, .lst _ ds => do
      let k ← inD a ds
      .ok (.bl (!k))
  | .isin, a, .tup ds => do
      let k ← inD a ds
      .ok (.bl k)
  | .notin, a, .tup ds => do
      let k ← inD a ds
      .ok (.bl (!k))
  | .isin, a, .dct _ c ks vs => if keyOk c a then .ok (.bl (dfind a.key ks vs).isSome) else .bad
  | .notin, a, .dct _ c ks vs => if keyOk c a then .ok (.bl (!(dfind a.key ks vs).isSome)) else .bad
  | .isin, .str a, .str z => match a.cps.toList with
    | [c] => .ok (.bl (decide (c ∈ z.cps.toList)))
    | _ => .bad
  | .notin, .str a, .str z => match a.cps.toList with
    | [c] => .ok (.bl (!decide (c ∈ z.cps.toList)))
    | _ => .bad
  | .is, .non, .non => .ok (.bl true)
  | .is, .bl _, .non => .ok (.bl false)
  | .is, .int _, .non => .ok (.bl false)
  | .is, .str _, .non => .ok (.bl false)
  | .is, .tup _, .non => .ok (.bl false)
  | .is, .lst _ _, .non => .ok (.bl false)
  | .is, .exc _, .non => .ok (.bl false)
  | .is, .dct _ _ _ _, .non => .ok (.bl false)
  | .isnot, .non, .non => .ok (.bl false)
  | .isnot, .bl _, .non => .ok (.bl true)
  | .isnot, .int _, .non => .ok (.bl true)
  | .isnot, .str _, .non => .ok (.bl true)
  | .isnot, .tup _, .non => .ok (.bl true)
  | .isnot, .lst _ _, .non => .ok (.bl true)
  | .isnot, .exc _, .non => .ok (.bl true)
  | .isnot, .dct _ _ _ _, .non => .ok (.bl true)
  | .is, .bl a, .bl b => .ok (.bl (decide (a = b)))
  | .isnot, .bl a, .bl b => .ok (.bl (!decide (a = b)))
  | _, _, _ => .bad

/-- o[i] -/
def ixop : D → D → R D
  | .lst _ ds, .int i => match atI ds i with
    | some d => .ok d
    | none => .bad
  | .tup ds, .int i => match atI ds i with
    | some d => .ok d
    | none => .bad
  | .str s, .int i => if s.length ≤ LIM then (match atI s.cps.toList i with
    | some c => .ok (.str ⟨#[c]⟩)
    | none => .bad) else .bad
  | .dct _ c ks vs, a => if keyOk c a then (match dfind a.key ks vs with
    | some d => .ok d
    | none => .bad) else .bad
  | _, _ => .bad

/-- o[lo:hi] -/
def cutD (ds : List D) (lo hi : Option Int) : List D := (ds.drop (HT.sIx ds.length 0 lo)).take (HT.sIx ds.length ds.length hi - HT.sIx ds.length 0 lo)
def slop : D → Option Int → Option Int → R D
  | .lst _ ds, lo, hi => .ok (.lst .own (cutD ds lo hi))
  | .str s, lo, hi => if s.length ≤ LIM then .ok (.str (cutS s lo hi)) else .bad
  | _, _, _ => .bad
/-- o[::-1] -/
def revop : D → R D
  | .lst _ ds => .ok (.lst .own ds.reverse)
  | .tup ds => .ok (.tup ds.reverse)
  | _ => .bad

/-- the whole numbers of a list -/
def intsOf : List D → Option (List Int)
  | [] => some []
  | .int i :: r => (intsOf r).map (i :: ·)
  | _ :: _ => none
def blsOf : List D → Option (List Bool)
  | [] => some []
  | .bl b :: r => (blsOf r).map (b :: ·)
  | _ :: _ => none

/-- a list in order -/
def insI (x : Int) : List Int → List Int
  | [] => [x]
  | y :: r => if x ≤ y then x :: y :: r else y :: insI x r
def sortI : List Int → List Int
  | [] => []
  | x :: r => insI x (sortI r)
def maxI : List Int → Int
  | [] => 0
  | [x] => x
  | x :: r => if maxI r > x then maxI r else x
def minI : List Int → Int
  | [] => 0
  | [x] => x
  | x :: r => if minI r < x then minI r else x
inductive Blt where
  | len | sorted | list | tuple | int | min1 | max1 | min2 | max2 | abs | all | str
  deriving DecidableEq

/-- lists of data that may be put in order -/
def tupC : PyData → Bool
  | .tuple (_ :: _) => true
  | _ => false
def othC : PyData → Bool
  | .none => false
  | .tuple _ => false
  | _ => true
def ordOk (ys : List PyData) : Bool := ys.all (fun d => ys.all fun d' => PySem.W.alike d d') && (ys.all tupC || ys.all othC) && ys.all fun d => decide (d.depth ≤ 40)
def pyOf (d : D) : PyData := d.toPy.getD .none
def leD (a b : D) : Bool := PySem.W.dataLe false pyOf a b
def bltop : Blt → List D → R D
  | .len, [.lst _ ds] => .ok (.int ds.length)
  | .len, [.tup ds] => .ok (.int ds.length)
  | .len, [.str s] => if s.length ≤ LIM then .ok (.int s.length) else .bad
  | .sorted, [.lst _ ds] => match intsOf ds with
    | some ns => .ok (.lst .own ((sortI ns).map .int))
    | none => match D.toPys ds with
      | some ys => if ordOk ys then .ok (.lst .own (ds.mergeSort leD)) else .bad
      | none => .bad
  | .sorted, [.dct _ true ks _] => match intsOf ks with
    | some ns => if ns.length < 64 then .ok (.lst .own ((sortI ns).map .int)) else .bad
    | none => .bad
  | .list, [.lst _ ds] => .ok (.lst .own ds)
  | .list, [.tup ds] => .ok (.lst .own ds)
  | .tuple, [.lst _ ds] => .ok (.tup ds)
  | .tuple, [.tup ds] => .ok (.tup ds)
  | .int, [.int i] => .ok (.int i)
  | .int, [.bl b] => .ok (.int (if b then 1 else 0))
  | .min1, [.lst _ ds] => match intsOf ds with
    | some (n :: ns) => .ok (.int (minI (n :: ns)))
    | _ => .bad
  | .max1, [.lst _ ds] => match intsOf ds with
    | some (n :: ns) => .ok (.int (maxI (n :: ns)))
    | _ => .bad
  | .min2, [.int i, .int j] => .ok (.int (if j < i then j else i))
  | .max2, [.int i, .int j] => .ok (.int (if j > i then j else i))
  | .abs, [.int i] => .ok (.int (if i < 0 then -i else i))
  | .all, [.lst _ ds] => match blsOf ds with
    | some bs => .ok (.bl (bs.all id))
    | none => .bad
  | .int, [.str a] => if a.length ≤ 640 then (match intText? a with
    | some n => .ok (.int n)
    | none => .bad) else .bad
  | .str, [.int i] => if i.natAbs < 18446744073709551616 then .ok (.str (Str.ofString (toString i))) else .bad
  | _, _ => .bad
/-- a list of texts -/
def strsOf : List D → Option (List Str)
  | [] => some []
  | .str s :: r => (strsOf r).map (s :: ·)
  | _ :: _ => none
/-- s.split(t), t.join(l) -/
def splop : D → D → R D
  | .str s, .str t => if t.length ≠ 0 ∧ s.length + 2 ≤ LIM then .ok (.lst .own ((Txt.split s t).map .str)) else .bad
  | _, _ => .bad
def joinS (t : Str) (o : Option (List Str)) : R D := match o with
  | some ys => if (ys.map (·.length)).sum + ys.length * t.length ≤ LIM then .ok (.str (Txt.join t ys)) else .bad
  | none => .bad
def joop : D → D → R D
  | .str t, .lst _ ds => joinS t (strsOf ds)
  | .str t, .tup ds => joinS t (strsOf ds)
  | _, _ => .bad
def D.isS : D → Bool
  | .str _ => true
  | _ => false
/-- tuples of whole numbers -/
def tupsOf : List D → Option (List (List Int))
  | [] => some []
  | .tup ds :: r => match intsOf ds, tupsOf r with
    | some a, some b => some (a :: b)
    | _, _ => none
  | _ :: _ => none
/-- each once -/
def dist : List (List Int) → List (List Int)
  | [] => []
  | x :: r => if x ∈ r then dist r else x :: dist r
def setop : D → R D
  | .lst _ ds => match intsOf ds with
    | some ns => if ns.length < 4000 then .ok (.int ((PyProof.Rows.firstMet (fun i => ns.getD i 0) ns.length).length : Nat)) else .bad
    | none => match tupsOf ds with
      | some ks => if ks.length < 8000 then .ok (.int ((dist ks).length : Nat)) else .bad
      | none => .bad
  | _ => .bad

/-- the program's own exceptions -/
def exNames : List Str := ["NoLine", "NoTrain", "NoMove", "NoPiece", "TooMany", "NoText", "NoRow"]
/-- is an exception of the class c one of x? -/
def isE (c x : Str) : Bool := decide (x = "ValueError") || decide (x = "TurnError") || decide (c = x)
def isxop (x : Str) : D → R D
  | .exc c => if c ∈ exNames then .ok (.bl (isE c x)) else .bad
  | _ => .bad
/-- {k: v}, {k: v, l: u} -/
def dis1op (c : Bool) (k v : D) : R D := if keyOk c k && v.flat then .ok (.dct .own c [k] [v]) else .bad
def dis2op (k v l u : D) : R D := if keyOk true k && v.flat && keyOk true l && u.flat then .ok (.dct .own true (dput [k] [v] l u).1 (dput [k] [v] l u).2) else .bad
def D.isDI : D → Bool
  | .dct _ c _ _ => c
  | _ => false
def D.isL : D → Bool
  | .lst _ _ => true
  | _ => false
/-- d.get(k, x) -/
def getop (o k x : D) : R D := match o with
  | .dct _ true ks vs => if keyOk true k && x.flat then .ok ((dfind k.key ks vs).getD x) else .bad
  | _ => .bad
/-- l.count(x), l.index(x) -/
def cntop (o x : D) : R D := match o with
  | .lst _ ds => match D.toPys ds, x.toPy with
    | some ys, some z => if SeqAt.shaped (.list ys) && SeqAt.shaped z then .ok (.int ((ys.countP fun y => PyData.eqv y z : Nat) : Int)) else .bad
    | _, _ => .bad
  | _ => .bad
def idxL (x : PyData) : List PyData → Option Nat
  | [] => none
  | y :: ys => if PyData.eqv y x then some 0 else (idxL x ys).map (· + 1)
def idxop (o x : D) : R D := match o with
  | .lst _ ds => match D.toPys ds, x.toPy with
    | some ys, some z => if SeqAt.shaped (.list ys) && SeqAt.shaped z then (match idxL z ys with
      | some j => .ok (.int ((j : Nat) : Int))
      | none => .bad) else .bad
    | _, _ => .bad
  | _ => .bad

/-- built-in types that are asked for -/
inductive Ty where
  | int | bool | list | tuple | str
  deriving DecidableEq
def Ty.name : Ty → String
  | .int => "int"
  | .bool => "bool"
  | .list => "list"
  | .tuple => "tuple"
  | .str => "str"
def isop : D → Ty → R D
  | .bl _, t => .ok (.bl (decide (t = .int ∨ t = .bool)))
  | .int _, t => .ok (.bl (decide (t = .int)))
  | .str _, t => .ok (.bl (decide (t = .str)))
  | .non, t => .ok (.bl false)
  | .tup _, t => .ok (.bl (decide (t = .tuple)))
  | .lst .own _, t => .ok (.bl (decide (t = .list)))
  | .lst .frz _, t => .ok (.bl (decide (t = .list)))
  | _, _ => .bad

/-! ### the syntax -/
/-- what is stored to -/
inductive Tg where
  | nm (i : Nat)
  | tup (ts : Tg)
  | nil
  | cons (t ts : Tg)

/-- what a loop walks, but a list or a tuple -/
inductive Ik where
  | range1 | range2 | range3 | enum | zip
  deriving DecidableEq

inductive M where
  | slot (i : Nat)
  | mv (i : Nat)
  | mvT (i : Nat)
  | glob (x : Str)
  | int (i : Int) | str (s : Str) | bl (b : Bool) | non
  | bin (op : Bop) (a b : M)
  | neg (a : M)
  | cmp (op : Cop) (a b : M)
  | chain (o1 o2 : Cop) (a b c : M)
  | not (a : M)
  | and (a b : M)
  | or (a b : M)
  | nil
  | cons (a as : M)
  | tup (es : M)
  | list (es : M)
  | sub (a i : M)
  | slice (a lo hi : M)
  | rev (a : M)
  | call (f : Str) (es : M)
  | blt (b : Blt) (es : M)
  | isi (a : M) (t : Ty)
  | lenset (a : M)
  | it (k : Ik) (es : M)
  | its (a : M)
  | yes
  | chain3 (o1 o2 o3 : Cop) (a b c d : M)
  | isx (a : M) (x : Str)
  | dnew (c : Bool)
  | dis1 (c : Bool) (k v : M)
  | dis2 (k v l u : M)
  | get (o k x : M)
  | cnt (o x : M)
  | idx (o x : M)
  | split (o x : M)
  | join (o x : M)
  | lrange1 (a : M)
  | lrange2 (a b : M)
  /-- at the top of a statement: what can't be in its answer is not frozen -/
  | keep (a : M)
  | thaw (a : M)
  | comp (elt : M) (tg : Tg) (iter cond : M) (own : List (Str × Nat))

abbrev Fn := Str → List D → R D
abbrev Gn := Str → D

def getD' (δ : List D) (i : Nat) : D := δ.getD i .any

/-- store an item, its lists held by one owner where fz is false -/
def asg (fz : Bool) : Tg → List D → List D → R (List D)
  | .nm i, [d], δ => .ok (δ.set i (if fz then d.frz else d))
  | .tup ts, [.tup ds], δ => asg fz ts ds δ
  | .tup ts, [.lst _ ds], δ => asg fz ts ds δ
  | .nil, [], δ => .ok δ
  | .cons t ts, d :: ds, δ => do
      let δ' ← asg fz t [d] δ
      asg fz ts ds δ'
  | _, _, _ => .bad

def wipeD (δ : List D) : List Nat → List D
  | [] => δ
  | v :: vs => (wipeD δ vs).set v .any

def compL (f : D → R (Option D)) : List D → R (List D)
  | [] => .ok []
  | d :: ds => do
      let r ← f d
      let rs ← compL f ds
      match r with
      | some e => .ok (e :: rs)
      | none => .ok rs

/-- lo, lo + c, .. (n of them) -/
def rangeL (lo c : Int) : Nat → List D
  | 0 => []
  | n + 1 => .int lo :: rangeL (lo + c) c n
def okR3 (i j c : Int) : Bool := decide (c ≠ 0) && decide (c.natAbs < 1073741824) && Builtin.Range.small i j c && decide (0 ≤ Builtin.Range.rangeSize i j c)
def okR (i : Int) : Bool := decide (i.natAbs < 4611686018427387904)
def enumL (i : Nat) : List D → List D
  | [] => []
  | d :: ds => .tup [.int i, d] :: enumL (i + 1) ds
def zipL : List D → List D → List D
  | d :: ds, e :: es => .tup [d, e] :: zipL ds es
  | _, _ => []
def itop : Ik → List D → R D
  | .range1, [.int j] => if okR j then .ok (.tup (rangeL 0 1 j.toNat)) else .bad
  | .range2, [.int i, .int j] => if okR i && okR j then .ok (.tup (rangeL i 1 (j - i).toNat)) else .bad
  | .range3, [.int i, .int j, .int c] => if okR3 i j c then .ok (.tup (rangeL i c (Builtin.Range.rangeSize i j c).toNat)) else .bad
  | .enum, [.lst _ ds] => .ok (.tup (enumL 0 ds))
  | .zip, [.lst _ ds, .lst _ es] => .ok (.tup (zipL ds es))
  | _, _ => .bad
/-- list(range(..)) -/
def lrop : List D → R D
  | [.int j] => if okR j && decide (j.toNat ≤ 16777216) then .ok (.lst .own (rangeL 0 1 j.toNat)) else .bad
  | [.int i, .int j] => if okR i && okR j && decide ((j - i).toNat ≤ 16777216) then .ok (.lst .own (rangeL i 1 (j - i).toNat)) else .bad
  | _ => .bad
def itemsOf : D → R (List D)
  | .lst _ ds => .ok ds
  | .tup ds => .ok ds
  | .str s => .ok (signs s)
  | _ => .bad
def intOf : D → R Int
  | .int i => .ok i
  | _ => .bad
def M.isNil : M → Bool
  | .nil => true
  | _ => false
def tupOf : D → R (List D)
  | .tup ds => .ok ds
  | _ => .bad
def blOf : D → R Bool
  | .bl b => .ok b
  | _ => .bad
/-- no exception leaves a comprehension here -/
def noX {α : Type} : R α → R α
  | .exc _ => .bad
  | r => r

def ev (Φ : Fn) (γ : Gn) : M → List D → R D
  | .slot i, δ => match getD' δ i with
    | .any => .bad
    | d => .ok d
  | .mv _, _ => .bad
  | .mvT _, _ => .bad
  | .glob x, _ => match γ x with
    | .any => .bad
    | d => .ok d
  | .int i, _ => .ok (.int i)
  | .str s, _ => .ok (.str s)
  | .bl b, _ => .ok (.bl b)
  | .non, _ => .ok .non
  | .bin op a b, δ => do
      let x ← ev Φ γ a δ
      let y ← ev Φ γ b δ
      binop op x y
  | .neg a, δ => do
      let x ← ev Φ γ a δ
      match x with
      | .int i => .ok (.int (-i))
      | _ => .bad
  | .cmp op a b, δ => do
      let x ← ev Φ γ a δ
      let y ← ev Φ γ b δ
      cmpop op x y
  | .chain o1 o2 a b c, δ => do
      let x ← ev Φ γ a δ
      let y ← ev Φ γ b δ
      let i ← intOf x
      let j ← intOf y
      let k ← cmpop o1 (.int i) (.int j)
      let q ← blOf k
      if q then do
        let z ← ev Φ γ c δ
        let k ← cmpop o2 (.int j) z
        let q ← blOf k
        .ok (.bl q)
      else .ok (.bl false)
  | .not a, δ => do
      let x ← ev Φ γ a δ
      let q ← blOf x
      .ok (.bl (!q))
  | .and a b, δ => do
      let x ← ev Φ γ a δ
      let q ← blOf x
      if q then do
        let y ← ev Φ γ b δ
        let q ← blOf y
        .ok (.bl q)
      else .ok (.bl false)
  | .or a b, δ => do
      let x ← ev Φ γ a δ
      let q ← blOf x
      if q then .ok (.bl true) else do
        let y ← ev Φ γ b δ
        let q ← blOf y
        .ok (.bl q)
  | .nil, _ => .ok (.tup [])
  | .cons a as, δ => do
      let x ← ev Φ γ a δ
      let y ← ev Φ γ as δ
      let l ← tupOf y
      .ok (.tup (x :: l))
  | .tup es, δ => do
      let y ← ev Φ γ es δ
      let l ← tupOf y
      if l.length ≤ LIM then .ok (.tup l) else .bad
  | .list es, δ => do
      let y ← ev Φ γ es δ
      let l ← tupOf y
      if l.length ≤ LIM then .ok (.lst .own l) else .bad
  | .sub a i, δ => do
      let x ← ev Φ γ a δ
      let y ← ev Φ γ i δ
      ixop x y
  | .slice a lo hi, δ => do
      let x ← ev Φ γ a δ
      if lo.isNil then (if hi.isNil then slop x none none else do
        let h ← ev Φ γ hi δ
        let h ← intOf h
        slop x none (some h))
      else do
        let l ← ev Φ γ lo δ
        let l ← intOf l
        if hi.isNil then slop x (some l) none else do
          let h ← ev Φ γ hi δ
          let h ← intOf h
          slop x (some l) (some h)
  | .rev a, δ => do
      let x ← ev Φ γ a δ
      revop x
  | .call f es, δ => do
      let y ← ev Φ γ es δ
      let l ← tupOf y
      Φ f (D.frzs l)
  | .blt b es, δ => do
      let y ← ev Φ γ es δ
      let l ← tupOf y
      bltop b l
  | .isi a t, δ => do
      let x ← ev Φ γ a δ
      isop x t
  | .lenset a, δ => do
      let x ← ev Φ γ a δ
      setop x
  | .its a, δ => do
      let x ← ev Φ γ a δ
      let ds ← itemsOf x
      .ok (.tup ds)
  | .it k es, δ => do
      let y ← ev Φ γ es δ
      let l ← tupOf y
      itop k l
  | .yes, _ => .ok (.bl true)
  | .chain3 o1 o2 o3 a b c d, δ => do
      let x ← ev Φ γ a δ
      let y ← ev Φ γ b δ
      let i ← intOf x
      let j ← intOf y
      let k ← cmpop o1 (.int i) (.int j)
      let q ← blOf k
      if q then do
        let z ← ev Φ γ c δ
        let l ← intOf z
        let k ← cmpop o2 (.int j) (.int l)
        let q ← blOf k
        if q then do
          let z ← ev Φ γ d δ
          let k ← cmpop o3 (.int l) z
          let q ← blOf k
          .ok (.bl q)
        else .ok (.bl false)
      else .ok (.bl false)
  | .isx a x, δ => do
      let d ← ev Φ γ a δ
      isxop x d
  | .dnew c, _ => .ok (.dct .own c [] [])
  | .dis1 c k v, δ => do
      let x ← ev Φ γ k δ
      let y ← ev Φ γ v δ
      dis1op c x y
  | .dis2 k v l u, δ => do
      let x ← ev Φ γ k δ
      let y ← ev Φ γ v δ
      let z ← ev Φ γ l δ
      let w ← ev Φ γ u δ
      dis2op x y z w
  | .get o k x, δ => do
      let a ← ev Φ γ o δ
      if a.isDI then do
        let b ← ev Φ γ k δ
        let c ← ev Φ γ x δ
        getop a b c
      else .bad
  | .cnt o x, δ => do
      let a ← ev Φ γ o δ
      if a.isL then do
        let b ← ev Φ γ x δ
        cntop a b
      else .bad
  | .idx o x, δ => do
      let a ← ev Φ γ o δ
      if a.isL then do
        let b ← ev Φ γ x δ
        idxop a b
      else .bad
  | .split o x, δ => do
      let a ← ev Φ γ o δ
      if a.isS then do
        let b ← ev Φ γ x δ
        splop a b
      else .bad
  | .join o x, δ => do
      let a ← ev Φ γ o δ
      if a.isS then do
        let b ← ev Φ γ x δ
        joop a b
      else .bad
  | .lrange1 a, δ => do
      let x ← ev Φ γ a δ
      lrop [x]
  | .keep a, δ => ev Φ γ a δ
  | .thaw a, δ => ev Φ γ a δ
  | .lrange2 a b, δ => do
      let x ← ev Φ γ a δ
      let y ← ev Φ γ b δ
      lrop [x, y]
  | .comp elt tg iter cond own, δ => do
      let y ← ev Φ γ iter δ
      let ds ← tupOf y
      if ds.length < LIM then do
        let rs ← compL (fun d => noX (do
          let δ' ← asg true tg [d] (wipeD δ (own.map (·.2)))
          let c ← ev Φ γ cond δ'
          let q ← blOf c
          if q then do
            let e ← ev Φ γ elt δ'
            .ok (some e)
          else .ok none)) ds
        .ok (.lst .own rs)
      else .bad

end Mn

/-! MnS1: sets of tuples of any number: the round of i -> 5 i + 1 in a table of 2^e slots. -/
namespace Mn.Big
open PySem PySem.Spec PyProof.Rows L2

/-- 1 + 5 + .. -/
def sq : Nat → Nat
  | 0 => 0
  | n + 1 => sq n * 5 + 1
theorem sq_pow : ∀ n, 5 ^ n = 4 * sq n + 1
  | 0 => rfl
  | n + 1 => by rw [Nat.pow_succ, sq_pow n, sq]; omega
theorem sq_par : ∀ n, sq n % 2 = n % 2
  | 0 => rfl
  | n + 1 => by rw [sq]; have := sq_par n; omega
theorem sq_twice (n : Nat) : sq (2 * n) = sq n * (4 * sq n + 2) := by
  have h := sq_pow (2 * n)
  rw [Nat.two_mul, Nat.pow_add, sq_pow n] at h
  rw [Nat.two_mul]
  generalize sq (n + n) = x at *
  generalize sq n = y at *
  have e : (4 * y + 1) * (4 * y + 1) = 4 * (y * (4 * y + 2)) + 1 := by
    simp only [Nat.add_mul, Nat.mul_add, Nat.mul_assoc, Nat.mul_comm, Nat.mul_left_comm]; omega
  omega
theorem odd_dvd {e a b : Nat} (h : 2 ^ e ∣ a * (2 * b + 1)) : 2 ^ e ∣ a := by
  have c : Nat.Coprime (2 ^ e) (2 * b + 1) := by
    refine Nat.Coprime.pow_left e ?_
    rw [Nat.coprime_iff_gcd_eq_one, Nat.gcd_rec]
    have : (2 * b + 1) % 2 = 1 := by omega
    rw [this] <;> rfl
  exact c.dvd_of_dvd_mul_right h
theorem sq_dvd : ∀ (e n : Nat), 2 ^ e ∣ sq n → 2 ^ e ∣ n
  | 0, n, _ => Nat.one_dvd n
  | e + 1, n, h => by
    have h2 : 2 ∣ sq n := Nat.dvd_trans ⟨2 ^ e, by rw [Nat.pow_succ, Nat.mul_comm]⟩ h
    have hp := sq_par n
    obtain ⟨k, rfl⟩ : ∃ k, n = 2 * k := ⟨n / 2, by omega⟩
    rw [sq_twice] at h
    have h3 : 2 ^ e ∣ sq k * (2 * sq k + 1) := by
      have e1 : sq k * (4 * sq k + 2) = 2 * (sq k * (2 * sq k + 1)) := by
        have : 4 * sq k + 2 = 2 * (2 * sq k + 1) := by omega
        rw [this, Nat.mul_left_comm]
      rw [e1, Nat.pow_succ, Nat.mul_comm (2 ^ e) 2] at h
      exact Nat.dvd_of_mul_dvd_mul_left (by omega) h
    have h4 := sq_dvd e k (odd_dvd h3)
    rw [Nat.pow_succ, Nat.mul_comm]
    exact Nat.mul_dvd_mul_left 2 h4
/-- the tables met -/
def Good (m : Nat) : Prop := ∃ e, 3 ≤ e ∧ e ≤ 15 ∧ m + 1 = 2 ^ e
theorem Good.le {m : Nat} (h : Good m) : m ≤ 32767 := by
  obtain ⟨e, h1, h2, h3⟩ := h
  have : 2 ^ e ≤ 2 ^ 15 := Nat.pow_le_pow_right (by omega) h2
  omega
theorem Good.ge {m : Nat} (h : Good m) : 7 ≤ m := by
  obtain ⟨e, h1, h2, h3⟩ := h
  have : 2 ^ 3 ≤ 2 ^ e := Nat.pow_le_pow_right (by omega) h1
  omega
theorem Good.odd {m : Nat} (h : Good m) : m % 2 = 1 := by
  obtain ⟨e, h1, h2, h3⟩ := h
  obtain ⟨k, rfl⟩ : ∃ k, e = k + 1 := ⟨e - 1, by omega⟩
  rw [Nat.pow_succ] at h3
  omega
theorem lcgI_far (m i k : Nat) : ∀ d, lcgI m i (k + (d + 1)) = (5 ^ (d + 1) * lcgI m i k + sq (d + 1)) % (m + 1)
  | 0 => by
    show (lcgI m i k * 5 + 1) % (m + 1) = (5 ^ 1 * lcgI m i k + 1) % (m + 1)
    rw [Nat.pow_one, Nat.mul_comm]
  | d + 1 => by
    show (lcgI m i (k + (d + 1)) * 5 + 1) % (m + 1) = _
    rw [lcgI_far m i k d]
    have e : 5 ^ (d + 1 + 1) * lcgI m i k + sq (d + 1 + 1) = (5 ^ (d + 1) * lcgI m i k + sq (d + 1)) * 5 + 1 := by
      show 5 ^ (d + 1 + 1) * lcgI m i k + (sq (d + 1) * 5 + 1) = _
      rw [Nat.pow_succ, Nat.add_mul, Nat.mul_right_comm]
      omega
    rw [e, Nat.add_mod, Nat.mul_mod, Nat.mod_mod, ← Nat.mul_mod, ← Nat.add_mod]
theorem lcgI_le {m i : Nat} (hi : i ≤ m) : ∀ k, lcgI m i k ≤ m
  | 0 => hi
  | _ + 1 => Nat.le_of_lt_succ (Nat.mod_lt _ (Nat.succ_pos _))
/-- within a round no slot is met twice -/
theorem lcgI_once {m i k d : Nat} (g : Good m) (hi : i ≤ m) (hd : d < m) (h : lcgI m i (k + (d + 1)) = lcgI m i k) : False := by
  obtain ⟨e, _, _, he⟩ := g
  rw [lcgI_far, sq_pow] at h
  have hy := lcgI_le hi k
  generalize lcgI m i k = y at *
  have e1 : (4 * sq (d + 1) + 1) * y + sq (d + 1) = y + sq (d + 1) * (2 * (2 * y) + 1) := by
    generalize sq (d + 1) = x
    have a1 : (4 * x + 1) * y = 4 * (x * y) + y := by rw [Nat.add_mul, Nat.one_mul, Nat.mul_assoc]
    have a2 : x * (2 * (2 * y) + 1) = 4 * (x * y) + x := by rw [Nat.mul_add, Nat.mul_one, ← Nat.mul_assoc 2 2 y, Nat.mul_left_comm]
    omega
  rw [e1] at h
  have h2 : (m + 1) ∣ sq (d + 1) * (2 * (2 * y) + 1) := by
    have h3 := Nat.sub_mod_eq_zero_of_mod_eq (m := y + sq (d + 1) * (2 * (2 * y) + 1)) (n := y) (k := m + 1) (by rw [h, Nat.mod_eq_of_lt (by omega)])
    rw [Nat.add_sub_cancel_left] at h3
    exact Nat.dvd_of_mod_eq_zero h3
  rw [he] at h2
  have h4 := Nat.le_of_dvd (by omega) (sq_dvd e _ (odd_dvd h2))
  omega
theorem lcgI_round {m i j : Nat} (g : Good m) (hi : i ≤ m) (hj : j ≤ m) : ∃ k, k ≤ m ∧ lcgI m i k = j := by
  refine Classical.byContradiction fun hn => ?_
  have nd : ((List.range (m + 1)).map (lcgI m i)).Nodup := by
    refine List.pairwise_map.mpr (List.Pairwise.imp_of_mem (fun {a b} ha hb hlt e => ?_) (List.pairwise_lt_range (n := m + 1)))
    have hb := List.mem_range.mp hb
    exact lcgI_once (k := a) (d := b - a - 1) g hi (by omega) (by rw [show a + (b - a - 1 + 1) = b by omega]; exact e.symm)
  have nj : j ∉ (List.range (m + 1)).map (lcgI m i) := fun h => by
    obtain ⟨k, hk, e⟩ := List.mem_map.mp h
    exact hn ⟨k, Nat.le_of_lt_succ (List.mem_range.mp hk), e⟩
  have z := nat_nodup_len (j :: (List.range (m + 1)).map (lcgI m i)) (List.range (m + 1)) (List.nodup_cons.mpr ⟨nj, nd⟩) fun x hx => by
    rcases List.mem_cons.mp hx with rfl | hx
    · exact List.mem_range.mpr (by omega)
    · obtain ⟨k, _, rfl⟩ := List.mem_map.mp hx
      exact List.mem_range.mpr (Nat.lt_succ_of_le (lcgI_le hi k))
  simp at z
  omega
theorem runs_meet {m j : Nat} (g : Good m) (h : Int) (hj : j ≤ m) : ∃ n, n ≤ m + 12 ∧ runI m (SetTable.bits h) n = j := by
  obtain ⟨k, hk, e⟩ := lcgI_round g (runI_le m (SetTable.bits h) 12) hj
  exact ⟨12 + k, by omega, by rw [runI_tail (bits_lt h)]; exact e⟩
/-- the steps of the way -/
theorem way_in (m : Nat) (h : Int) (k : Nat) : way m h k ≤ m := by
  have b : SetTable.bits h % (m + 1) ≤ m := Nat.le_of_lt_succ (Nat.mod_lt _ (Nat.succ_pos _))
  have := nth_in (m := m) k (runAt m (SetTable.bits h % (m + 1)) (SetTable.bits h)) (by
    have := runEnd_bd b
    simp only [runAt]; omega)
  simp only [way]; omega
/-- few slots don't stop a way for long -/
theorem way_out {m : Nat} (g : Good m) (h : Int) {js : List Nat} (hl : js.length ≤ m) : ∃ k, k ≤ 10 * (12 + js.length) ∧ way m h k ∉ js := by
  obtain ⟨c, hc, hn⟩ : ∃ c, c ≤ js.length ∧ lcgI m (runI m (SetTable.bits h) 12) c ∉ js := by
    refine Classical.byContradiction fun hn => ?_
    have nd : ((List.range (js.length + 1)).map (lcgI m (runI m (SetTable.bits h) 12))).Nodup := by
      refine List.pairwise_map.mpr (List.Pairwise.imp_of_mem (fun {a b} ha hb hlt e => ?_) (List.pairwise_lt_range (n := js.length + 1)))
      have hb := List.mem_range.mp hb
      exact lcgI_once (k := a) (d := b - a - 1) g (runI_le m _ 12) (by omega) (by rw [show a + (b - a - 1 + 1) = b by omega]; exact e.symm)
    have z := nat_nodup_len _ js nd fun x hx => by
      obtain ⟨k, hk, rfl⟩ := List.mem_map.mp hx
      exact Classical.byContradiction fun q => hn ⟨k, Nat.le_of_lt_succ (List.mem_range.mp hk), q⟩
    simp at z
    omega
  obtain ⟨k, hk, e2⟩ := run_nth m (SetTable.bits h) (12 + c)
  refine ⟨k, by omega, ?_⟩
  show (nth m (runAt m (SetTable.bits h % (m + 1)) (SetTable.bits h)) k).j ∉ js
  rw [e2]
  show runI m (SetTable.bits h) (12 + c) ∉ js
  rw [runI_tail (bits_lt h)]
  exact hn
/-- of a way, what is ahead of a place for which p is true -/
theorem way_first {m : Nat} {h : Int} {p : Nat → Prop} {k : Nat} (hk : p (way m h k)) : ∃ K, K ≤ k ∧ p (way m h K) ∧ ∀ c, c < K → ¬ p (way m h c) := st_least (p := fun c => p (way m h c)) k hk
end Mn.Big

/-! MnS2: tables whose slots all are found again from their hashes. -/
namespace Mn.Big
open PySem PySem.Spec PyProof.Rows L2

/-- hs stand in t, each where its way first came to a free slot -/
structure Laid (t : SetTable) (hs : List Int) : Prop where
  ris : Ris t.place.toList
  dm : t.dummies = #[]
  sz : t.place.size = hs.length
  good : Good t.mask
  bd : ∀ x, x ∈ t.place.toList → x ≤ t.mask
  met : ∀ (i : Nat) (h : Int) (j : Nat), hs[i]? = some h → t.place.toList[i]? = some j → ∃ k, way t.mask h k = j ∧ ∀ c, c < k → way t.mask h c ∈ t.place.toList
section
variable {t : SetTable} {hs : List Int}
theorem Laid.len (T : Laid t hs) : t.place.toList.length = hs.length := by rw [Array.length_toList]; exact T.sz
/-- a way comes to a free slot -/
theorem Laid.free (T : Laid t hs) (hl : hs.length ≤ t.mask) (h : Int) : ∃ K, K < 10 * SetTable.turns t.mask ∧ K ≤ 10 * (12 + hs.length) ∧ way t.mask h K ∉ t.place.toList ∧ ∀ c, c < K → way t.mask h c ∈ t.place.toList := by
  obtain ⟨k, hk, hn⟩ := way_out T.good h (js := t.place.toList) (by rw [T.len]; omega)
  rw [T.len] at hk
  obtain ⟨K, h1, h2, h3⟩ := way_first (p := fun x => x ∉ t.place.toList) hn
  exact ⟨K, by unfold SetTable.turns; omega, by omega, h2, fun c hc => Classical.not_not.mp (h3 c hc)⟩
/-- and has come by all of its own hash before -/
theorem Laid.ahead (T : Laid t hs) {h : Int} {K i j : Nat} (hK : way t.mask h K ∉ t.place.toList) (hi : hs[i]? = some h) (hj : t.place.toList[i]? = some j) : ∃ k, k < K ∧ way t.mask h k = j := by
  obtain ⟨k, e, hb⟩ := T.met i h j hi hj
  refine ⟨k, ?_, e⟩
  refine Nat.lt_of_not_le fun hle => ?_
  rcases Nat.lt_or_eq_of_le hle with c | c
  · exact hK (hb K c)
  · rw [c, e] at hK
    exact hK (List.mem_of_getElem? hj)
/-- one more -/
theorem Laid.more (T : Laid t hs) {h : Int} {K : Nat} (hK : way t.mask h K ∉ t.place.toList) (hb : ∀ c, c < K → way t.mask h c ∈ t.place.toList) :
    ∃ t1 p, t.put (way t.mask h K) = (t1, p) ∧ p ≤ hs.length ∧ Laid t1 (hs.take p ++ h :: hs.drop p) ∧ t1.mask = t.mask ∧ t1.led = t.led ∧ t1.plain = t.plain ∧ t1.fill = hs.length + 1 := by
  have hjm := way_in t.mask h K
  generalize hj : way t.mask h K = j at hK hjm
  refine ⟨(t.put j).1, SetTable.below t.place j, rfl, ?_⟩
  have c1 := (below_cut T.ris j).1
  have hp := put_place t j
  have hnp : t.place[SetTable.below t.place j]? ≠ some j := fun e => hK (List.mem_of_getElem? (by rw [Array.getElem?_toList]; exact e))
  have ris := ris_insert T.ris hnp
  generalize hpe : SetTable.below t.place j = p at c1 hp ris
  have hl := T.len
  have pl : p ≤ t.place.toList.length := by rw [Array.length_toList]; exact c1
  have ph : p ≤ hs.length := by rw [← hl]; exact pl
  have hin : ∀ x, x ∈ (t.put j).1.place.toList ↔ x = j ∨ x ∈ t.place.toList := fun x => by rw [hp]; exact mem_ins
  have hsz : (t.put j).1.place.size = hs.length + 1 := by rw [← Array.length_toList, hp, len_ins _ pl, hl]
  refine ⟨ph, ⟨?_, put_dm T.dm j, ?_, T.good, fun x hx => ?_, fun i h' j' h1 h2 => ?_⟩, rfl, rfl, rfl, ?_⟩
  · have : (t.put j).1.place = SetTable.insertAt t.place p j := by rw [← hpe] <;> rfl
    rw [this]; exact ris
  · rw [len_ins _ ph]; exact hsz
  · rcases (hin x).mp hx with rfl | z
    · exact hjm
    · exact T.bd x z
  · rw [tins_get hs ph] at h1
    rw [hp, tins_get _ pl] at h2
    have old : ∀ {i' : Nat}, hs[i']? = some h' → t.place.toList[i']? = some j' → ∃ k, way t.mask h' k = j' ∧ ∀ c, c < k → way t.mask h' c ∈ (t.put j).1.place.toList := fun a b => by
      obtain ⟨k, e, z⟩ := T.met _ h' j' a b
      exact ⟨k, e, fun c hc => (hin _).mpr (.inr (z c hc))⟩
    split at h1
    · rename_i c
      rw [if_pos c] at h2
      exact old h1 h2
    · rename_i c
      rw [if_neg c] at h2
      split at h1
      · rename_i d
        rw [if_pos d] at h2
        cases h1; cases h2
        exact ⟨K, hj, fun c hc => (hin _).mpr (.inr (hb c hc))⟩
      · rename_i d
        rw [if_neg d] at h2
        exact old h1 h2
  · show (t.put j).1.place.size + (t.put j).1.dummies.size = hs.length + 1
    rw [hsz, put_dm T.dm j] <;> rfl
end

/-! ### laid anew -/
/-- the hashes in done sit at slots, each at the first that was free -/
structure Sit (m : Nat) (done : List Int) (ow : Array (Option Nat)) : Prop where
  sz : ow.size = m + 1
  who : ∀ j k, j ≤ m → oAt ow j = some k → ∃ h K, done[k]? = some h ∧ way m h K = j ∧ ∀ c, c < K → oAt ow (way m h c) ≠ none
  all : ∀ k, k < done.length → ∃ j, j ≤ m ∧ oAt ow j = some k
  few : ∃ js : List Nat, js.length = done.length ∧ ∀ j, j ≤ m → oAt ow j ≠ none → j ∈ js
theorem sit_none (m : Nat) : Sit m [] (Array.replicate (m + 1) none) where
  sz := by simp
  who := fun j k hj e => by rw [oAt_init hj] at e; cases e
  all := fun k hk => absurd hk (Nat.not_lt_zero _)
  few := ⟨[], rfl, fun j hj e => absurd (oAt_init hj) e⟩
theorem sit_free {m : Nat} (g : Good m) (ow : Array (Option Nat)) (h : Int) {j : Nat} (hj : j ≤ m) (hf : oAt ow j = none) :
    ∃ K, SetTable.layClean.free m ow (SetTable.turns m) (SetTable.bits h % (m + 1)) (SetTable.bits h) = some (way m h K) ∧ oAt ow (way m h K) = none ∧ ∀ c, c < K → oAt ow (way m h c) ≠ none := by
  obtain ⟨n, hn, e⟩ := runs_meet g h hj
  have hw : way m h (off m (SetTable.bits h % (m + 1)) (SetTable.bits h) n) = j := by
    show (nth m (runAt m (SetTable.bits h % (m + 1)) (SetTable.bits h)) (off m (SetTable.bits h % (m + 1)) (SetTable.bits h) n)).j = j
    rw [nth_off, itL_run]; exact e
  obtain ⟨K, k1, k2, k3⟩ := way_first (p := fun x => oAt ow x = Option.none) (m := m) (h := h) (k := off m (SetTable.bits h % (m + 1)) (SetTable.bits h) n) (by rw [hw]; exact hf)
  refine ⟨K, free_spec m ow (SetTable.turns m) n _ _ K (by unfold SetTable.turns; omega) k1 (fun c hc => ?_) ?_, k2, k3⟩
  · have q := k3 c hc
    show (oAt ow (way m h c)).isNone = false
    cases z : oAt ow (way m h c) with
    | none => exact absurd z q
    | some _ => rfl
  · show (oAt ow (way m h K)).isNone = true
    rw [k2] <;> rfl
theorem Sit.more {m : Nat} (g : Good m) {done : List Int} {ow : Array (Option Nat)} (W : Sit m done ow) (hl : done.length ≤ m) (h : Int) :
    ∃ j, SetTable.layClean.free m ow (SetTable.turns m) (SetTable.bits h % (m + 1)) (SetTable.bits h) = some j ∧ Sit m (done ++ [h]) (ow.setIfInBounds j (some done.length)) := by
  obtain ⟨js, hjs, hin⟩ := W.few
  obtain ⟨j0, h0, n0⟩ := st_missing js (m + 1) (by omega)
  have f0 : oAt ow j0 = none := Classical.byContradiction fun z => n0 (hin j0 (by omega) z)
  obtain ⟨K, e1, e2, e3⟩ := sit_free g ow h (Nat.le_of_lt_succ h0) f0
  have hjm := way_in m h K
  refine ⟨way m h K, e1, ?_⟩
  have at_ : ∀ i, oAt (ow.setIfInBounds (way m h K) (some done.length)) i = if i = way m h K then some done.length else oAt ow i := fun i => by
    split
    · rename_i c; rw [c]; exact oAt_set_self _ (by rw [W.sz]; omega)
    · rename_i c; exact oAt_set_ne _ c
  have up : ∀ {i : Nat}, oAt ow i ≠ none → oAt (ow.setIfInBounds (way m h K) (some done.length)) i ≠ none := fun {i} hi => by
    rw [at_]; split
    · exact fun e => nomatch e
    · exact hi
  refine ⟨by rw [Array.size_setIfInBounds]; exact W.sz, fun j k hj e => ?_, fun k hk => ?_, way m h K :: js, by simp [hjs], fun j hj e => ?_⟩
  · rw [at_] at e
    split at e
    · rename_i c
      cases e
      exact ⟨h, K, by simp, c.symm, fun c hc => up (e3 c hc)⟩
    · obtain ⟨h', K', a1, a2, a3⟩ := W.who j k hj e
      exact ⟨h', K', by rw [List.getElem?_append_left (List.getElem?_eq_some_iff.mp a1).1]; exact a1, a2, fun c hc => up (a3 c hc)⟩
  · by_cases c : k < done.length
    · obtain ⟨j, hj, e⟩ := W.all k c
      refine ⟨j, hj, ?_⟩
      rw [at_, if_neg (fun z => by rw [z, e2] at e; cases e)]; exact e
    · simp at hk
      refine ⟨way m h K, hjm, ?_⟩
      rw [at_, if_pos rfl, show done.length = k by omega]
  · rw [at_] at e
    split at e
    · rename_i c; rw [c]; exact List.mem_cons_self
    · exact List.mem_cons_of_mem _ (hin j hj e)
theorem sit_fold {m : Nat} (g : Good m) : ∀ (rest done : List Int) (ow : Array (Option Nat)), Sit m done ow → done.length + rest.length ≤ m →
    ∃ ow', rest.foldl (stepF m) (some (ow, done.length)) = some (ow', (done ++ rest).length) ∧ Sit m (done ++ rest) ow'
  | [], done, ow, W, _ => ⟨ow, by simp, by simpa using W⟩
  | h :: rest, done, ow, W, hl => by
    rw [List.length_cons] at hl
    obtain ⟨j, e, W'⟩ := W.more g (by omega) h
    obtain ⟨ow', f, W2⟩ := sit_fold g rest (done ++ [h]) _ W' (by simp; omega)
    refine ⟨ow', ?_, by simpa using W2⟩
    rw [List.foldl_cons, stepF_some e]
    simpa using f
/-- a table is laid anew -/
theorem laid_anew (t : SetTable) {hs : Array Int} {wanted M : Nat} (hw : SetTable.sizeAbove wanted - 1 = M) (g : Good M) (hn : hs.size ≤ M) :
    ∃ t' order, t.relaid hs wanted = some (t', order) ∧ order.toList.Perm (List.range hs.size) ∧ Laid t' (order.toList.map fun i => hs.getD i 0) ∧ t'.mask = M ∧ t'.led = t.led ∧ t'.plain = t.plain := by
  obtain ⟨ow, f, W⟩ := sit_fold g hs.toList [] _ (sit_none M) (by rw [Array.length_toList]; simpa using hn)
  rw [List.nil_append] at W
  have f' : hs.toList.foldl (stepF M) (some (Array.replicate (M + 1) none, 0)) = some (ow, hs.toList.length) := f
  have hr : t.relaid hs wanted = some (tabOf t M ow, ((liveOf M ow).map (·.2)).toArray) := by
    rw [relaid_eq, hw, layClean_eq, f'] <;> rfl
  have ris := ris_live (fun j => ow.getD j none) (List.range (M + 1)) (by unfold Ris; exact List.pairwise_lt_range)
  have nd : ((liveOf M ow).map (·.1)).Nodup := List.Pairwise.imp (fun h => Nat.ne_of_lt h) ris.1
  have hlen : (liveOf M ow).length = hs.size := by
    obtain ⟨js, p1, p2⟩ := W.few
    have a := nat_nodup_len _ js nd fun x hx => by
      obtain ⟨⟨y, k⟩, hq, rfl⟩ := List.mem_map.mp hx
      obtain ⟨b1, b2⟩ := (mem_live W.sz).1 hq
      exact p2 y b1 (by rw [b2]; exact fun z => nomatch z)
    have b := nat_nodup_len (List.range hs.size) ((liveOf M ow).map (·.2)) List.nodup_range fun k hk => by
      obtain ⟨j, b1, b2⟩ := W.all k (by rw [Array.length_toList]; exact List.mem_range.mp hk)
      exact List.mem_map.mpr ⟨(j, k), (mem_live W.sz).2 ⟨b1, b2⟩, rfl⟩
    rw [List.length_map, p1] at a
    have hz : hs.toList.length = hs.size := rfl
    rw [List.length_map, List.length_range] at b
    omega
  refine ⟨_, _, hr, ?_, ⟨ris.1, rfl, ?_, g, fun x hx => Nat.le_of_lt_succ (List.mem_range.mp (ris.2 x hx)), fun i h j h1 h2 => ?_⟩, rfl, rfl, rfl⟩
  · refine perm_range hs.size _ (by simpa using hlen) fun k hk => ?_
    obtain ⟨j, b1, b2⟩ := W.all k (by rw [Array.length_toList]; exact hk)
    exact List.mem_map.mpr ⟨(j, k), (mem_live W.sz).2 ⟨b1, b2⟩, rfl⟩
  · show ((liveOf M ow).map (·.1)).toArray.size = _
    simp
  · have h1' : (((liveOf M ow).map (·.2)).map fun i => hs.getD i 0)[i]? = some h := h1
    have h2' : ((liveOf M ow).map (·.1))[i]? = some j := h2
    rw [List.getElem?_map] at h2'
    rw [List.getElem?_map, List.getElem?_map] at h1'
    cases hq : (liveOf M ow)[i]? with
    | none => rw [hq] at h2'; cases h2'
    | some q =>
      obtain ⟨y, k⟩ := q
      rw [hq] at h1' h2'
      simp only [Option.map_some, Option.some.injEq] at h1' h2'
      subst h2'
      obtain ⟨b1, b2⟩ := (mem_live W.sz).1 (List.mem_of_getElem? hq)
      obtain ⟨h0, K, a1, a2, a3⟩ := W.who y k b1 b2
      have e0 : hs.getD k 0 = h0 := by rw [Array.getD_eq_getD_getElem?, ← Array.getElem?_toList, a1] <;> rfl
      rw [e0] at h1'
      subst h1'
      refine ⟨K, a2, fun c hc => ?_⟩
      show way M h0 c ∈ (liveOf M ow).map (·.1)
      cases z : oAt ow (way M h0 c) with
      | none => exact absurd z (a3 c hc)
      | some k2 => exact List.mem_map.mpr ⟨(way M h0 c, k2), (mem_live W.sz).2 ⟨way_in M h0 c, z⟩, rfl⟩
/-- how large -/
theorem above_go : ∀ (f e n : Nat), n < 2 ^ (e + f) → ∃ k, e ≤ k ∧ k ≤ e + f ∧ SetTable.sizeAbove.go n f (2 ^ e) = 2 ^ k ∧ n < 2 ^ k ∧ (k = e ∨ 2 ^ k ≤ 2 * n)
  | 0, e, n, h => ⟨e, Nat.le_refl _, Nat.le_refl _, rfl, h, .inl rfl⟩
  | f + 1, e, n, h => by
    show ∃ k, e ≤ k ∧ k ≤ e + (f + 1) ∧ (if 2 ^ e ≤ n then SetTable.sizeAbove.go n f (2 ^ e * 2) else 2 ^ e) = 2 ^ k ∧ n < 2 ^ k ∧ (k = e ∨ 2 ^ k ≤ 2 * n)
    by_cases c : 2 ^ e ≤ n
    · rw [if_pos c, ← Nat.pow_succ]
      obtain ⟨k, h1, h2, h3, h4, h5⟩ := above_go f (e + 1) n (by rw [show e + 1 + f = e + (f + 1) by omega]; exact h)
      refine ⟨k, by omega, by omega, h3, h4, .inr ?_⟩
      rcases h5 with rfl | h5
      · rw [Nat.pow_succ]; omega
      · exact h5
    · rw [if_neg c]
      exact ⟨e, Nat.le_refl _, by omega, rfl, by omega, .inl rfl⟩
theorem above_good {u : Nat} (h1 : 2 ≤ u) (h2 : u < 8000) : ∃ M, SetTable.sizeAbove (SetTable.grown u) - 1 = M ∧ Good M ∧ u * 5 < M * 3 ∧ SetTable.sizeAbove (SetTable.grown u) ≤ 32768 := by
  have e : SetTable.grown u = u * 4 := if_neg (by omega)
  rw [e]
  obtain ⟨k, a1, a2, a3, a4, a5⟩ := above_go 64 3 (u * 4) (Nat.lt_of_lt_of_le (show u * 4 < 2 ^ 15 by omega) (Nat.pow_le_pow_right (by omega) (by omega)))
  have e2 : SetTable.sizeAbove (u * 4) = 2 ^ k := a3
  have hk : k ≤ 15 := by
    rcases a5 with rfl | a5
    · omega
    · refine Nat.le_of_not_lt fun z => ?_
      have : 2 ^ 16 ≤ 2 ^ k := Nat.pow_le_pow_right (by omega) z
      omega
  have hp : 2 ^ k ≤ 2 ^ 15 := Nat.pow_le_pow_right (by omega) hk
  have hq : 2 ^ 3 ≤ 2 ^ k := Nat.pow_le_pow_right (by omega) a1
  rw [e2]
  refine ⟨2 ^ k - 1, rfl, ⟨k, a1, hk, by omega⟩, by omega, by omega⟩
end Mn.Big

/-! MnS3: a set of tuples of whole numbers is put together, one by one. -/
namespace Mn.Big
open PySem PySem.Spec PyProof.Rows L2

/-- the set at a holds the tuples at L's addresses -/
structure Sett (P : Program) (w : World) (h : Heap) (a : Addr) (L : List (Addr × List Int)) (es : Array (Int × Value)) (ep : Nat) (t : SetTable) : Prop where
  ob : ∃ o, h.get? a = some o ∧ o.ExactSet ∧ o.data = .set es ep t
  rows : es.toList = rowsOf P w L
  laid : Laid t (L.map fun p => thash P w p.2)
  nd : (L.map (·.2)).Nodup
  tup : ∀ p, p ∈ L → IsT P w h p.2 p.1
  plain : t.plain = true
  led : w.params.followText "set-order" = true ∨ t.led = true
  room : L.length * 5 < t.mask * 3
section
variable {P : Program} {w : World} {A : Around} {E : Value → Shared → Prop} {s : Shared} {a : Addr} {L : List (Addr × List Int)} {es : Array (Int × Value)} {ep : Nat} {t : SetTable}
theorem rows_len (h : es.toList = rowsOf P w L) : es.size = L.length := by
  have := congrArg List.length h
  simpa [rowsOf] using this
theorem Sett.size (R : Sett P w s.heap a L es ep t) : es.size = L.length := rows_len R.rows
theorem fits_of (h : Laid t (L.map fun p => thash P w p.2)) (hz : es.size = L.length) (hr : L.length ≤ t.mask) : t.fits es.size = true := by
  have h1 := h.sz
  rw [List.length_map] at h1
  unfold SetTable.fits SetTable.fill
  rw [h.dm, Bool.and_eq_true, beq_iff_eq, decide_eq_true_eq]
  show t.place.size = es.size ∧ t.place.size + 0 ≤ t.mask
  omega
theorem Sett.fits (R : Sett P w s.heap a L es ep t) : t.fits es.size = true := fits_of R.laid R.size (by have := R.room; omega)
theorem Sett.at' (R : Sett P w s.heap a L es ep t) {i : Nat} {p : Addr × List Int} (h : L[i]? = some p) : es[i]? = some (thash P w p.2, Value.ref p.1) := by
  rw [← Array.getElem?_toList, R.rows]
  simp [rowsOf, h]
theorem Sett.ways (R : Sett P w s.heap a L es ep t) : ¬ t.gaveWay = true := by
  unfold SetTable.gaveWay
  rw [R.laid.good.odd]
  decide
theorem nth_nodummy (m : Nat) : ∀ (n : Nat) (p : SetTable.Probe), p.dummy = none → (nth m p n).dummy = none
  | 0, _, h => h
  | n + 1, p, h => nth_nodummy m n (adv m p) (by unfold adv; split <;> exact h)
/-- where a way begins -/
abbrev frm (P : Program) (w : World) (t : SetTable) (k : List Int) : SetTable.Probe := runAt t.mask (SetTable.bits (thash P w k) % (t.mask + 1)) (SetTable.bits (thash P w k))

/-- a search for k, from the c-th step of its way on; its first free slot is the K-th -/
theorem seek (R : Sett P w s.heap a L es ep t) {x : Addr} {k : List Int} (hx : IsT P w s.heap k x) (hu : A.units < cLine) {K : Nat} (hKf : K < 10 * SetTable.turns t.mask)
    (hK : way t.mask (thash P w k) K ∉ t.place.toList) (hKb : ∀ c, c < K → way t.mask (thash P w k) c ∈ t.place.toList) {Q : SetFound → Shared → Prop}
    (hin : k ∈ L.map (·.2) → Q (.there none) s) (hout : k ∉ L.map (·.2) → Q (.free (way t.mask (thash P w k) K) false) s) :
    ∀ (f c : Nat) (st : Option SetTable.Probe), st.getD (t.probeStart (thash P w k)) = nth t.mask (frm P w t k) c → c ≤ K → K - c < f →
      (∀ (i : Nat) p, L[i]? = some p → p.2 = k → ∃ c', c ≤ c' ∧ c' < K ∧ t.place.toList[i]? = some (way t.mask (thash P w k) c')) →
      wpAny (model P w) A (setSearchFrom a (.ref x) (thash P w k) true f st) Q E s
  | 0, c, st, _, _, hf, _ => absurd hf (Nat.not_lt_zero _)
  | f + 1, c, st, hst, hc, hf, hre => by
    obtain ⟨o, ho, hex, hd⟩ := R.ob
    have fit := R.fits
    have e1 : ∀ q, (nth t.mask (nth t.mask (frm P w t k) c) q).j = way t.mask (thash P w k) (c + q) := fun q => congrArg SetTable.Probe.j (nth_add t.mask c _ q).symm
    have hz : c + (K - c) = K := by omega
    -- what the probe answers
    have spec := go_spec t R.laid.ris R.laid.dm (fun i => (es[i]?.map (·.1)).getD 0) (thash P w k) (10 * SetTable.turns t.mask) (K - c) _ (nth_nodummy t.mask c (frm P w t k) rfl) (by omega)
      (fun q hq => by rw [e1]; exact hKb _ (by omega)) (by rw [e1, hz]; exact hK)
    have hash_at : ∀ (i : Nat) p, L[i]? = some p → (es[i]?.map (·.1)).getD 0 = thash P w p.2 := fun i p hp => by rw [R.at' hp] <;> rfl
    rw [setSearchFrom_succ]
    refine wpAny_bind (wpAny_setState_of ho hd fit ?_)
    dsimp only
    refine wp_if_neg R.ways ?_
    try refine wpAny_bind (wpAny_pure ?_)
    rw [hst]
    rcases spec with ⟨q, i, hq, hi, hh, hno, hpr⟩ | ⟨hno, hpr⟩
    · rw [show t.probe (fun i => (es[i]?.map (·.1)).getD 0) (thash P w k) (nth t.mask (frm P w t k) c) = _ from hpr]
      dsimp only
      rw [e1] at hi ⊢
      rw [← nth_add]
      have hil : i < L.length := by
        have h1 := (List.getElem?_eq_some_iff.mp hi).1
        rw [R.laid.len, List.length_map] at h1
        exact h1
      obtain ⟨p, hp⟩ : ∃ p, L[i]? = some p := ⟨_, List.getElem?_eq_getElem hil⟩
      have pt := R.tup p (List.mem_of_getElem? hp)
      have slot := slot_live R.laid.ris hi
      have go : wpAny (model P w) A (searchRest a (.ref x) (thash P w k) true f es t (way t.mask (thash P w k) (c + q)) i (nth t.mask (frm P w t k) (c + (q + 1)))) Q E s := by
        unfold searchRest
        rw [R.at' hp]
        dsimp only
        refine wpAny_bind (wpAny_holding (wpAny_eqBool_tuple hu pt hx ?_))
        refine wpAny_bind (wpAny_setState_of ho hd fit ?_)
        dsimp only
        by_cases hk : p.2 = k
        · refine wp_if_pos (by simp [hk]) (wpAny_pure (hin (List.mem_map.mpr ⟨p, List.mem_of_getElem? hp, hk⟩)))
        · refine wp_if_neg (by simp [hk]) ?_
          try refine wpAny_bind (wpAny_pure ?_)
          rw [sameMem]
          dsimp only
          simp only [if_true, slot, R.at' hp]
          refine wpAny_bind (wpAny_isSame_ref_self (wpAny_bind (wpAny_pure ?_)))
          simp only [if_true]
          refine wp_if_neg (by simp [hk]) ?_
          refine seek R hx hu hKf hK hKb hin hout f (c + (q + 1)) _ rfl (by omega) (by omega) fun i0 p0 h0 hk0 => ?_
          obtain ⟨c', a1, a2, a3⟩ := hre i0 p0 h0 hk0
          refine ⟨c', Nat.le_of_not_lt fun z => ?_, a2, a3⟩
          by_cases y : c' = c + q
          · rw [y] at a3
            have s0 := slot_live R.laid.ris a3
            rw [slot] at s0
            cases s0
            rw [hp] at h0
            cases h0
            exact hk hk0
          · exact hno (c' - c) i0 (by omega) (by rw [e1, show c + (c' - c) = c' by omega]; exact a3) ((hash_at i0 p0 h0).trans (by rw [hk0]))
      by_cases hl : t.led = true
      · refine wp_if_neg (by simp [hl]) ?_
        try refine wpAny_bind (wpAny_pure ?_)
        exact go
      · refine wp_if_pos (by simp [hl]) ?_
        refine wpAny_bind (seen_tup hx (fun y hy => ?_) ?_)
        · obtain ⟨e, he, rfl⟩ := List.mem_map.mp hy
          have he2 : e ∈ es.toList := by
            have : e ∈ es ∧ e.1 = thash P w k := by simpa using he
            simpa using this.1
          rw [R.rows] at he2
          obtain ⟨p2, hp2, rfl⟩ := List.mem_map.mp he2
          exact ⟨p2.2, p2.1, rfl, R.tup p2 hp2⟩
        · refine wp_if_neg (by decide) ?_
          try refine wpAny_bind (wpAny_pure ?_)
          exact go
    · rw [show t.probe (fun i => (es[i]?.map (·.1)).getD 0) (thash P w k) (nth t.mask (frm P w t k) c) = _ from hpr]
      dsimp only
      rw [e1, hz]
      refine wpAny_pure (hout fun hm => ?_)
      obtain ⟨p0, h0, hk0⟩ := List.mem_map.mp hm
      obtain ⟨i0, hi0⟩ := List.mem_iff_getElem?.mp h0
      obtain ⟨c', a1, a2, a3⟩ := hre i0 p0 hi0 hk0
      exact hno (c' - c) i0 (by omega) (by rw [e1, show c + (c' - c) = c' by omega]; exact a3) ((hash_at i0 p0 hi0).trans (by rw [hk0]))

theorem seek_add (R : Sett P w s.heap a L es ep t) (hl : L.length < 8000) {x : Addr} {k : List Int} (hx : IsT P w s.heap k x) (hu : A.units < cLine) {Q : SetFound → Shared → Prop}
    (hin : k ∈ L.map (·.2) → Q (.there none) s)
    (hout : ∀ K, k ∉ L.map (·.2) → way t.mask (thash P w k) K ∉ t.place.toList → (∀ c, c < K → way t.mask (thash P w k) c ∈ t.place.toList) → Q (.free (way t.mask (thash P w k) K) false) s) :
    wpAny (model P w) A (setSearch a (.ref x) (thash P w k) true) Q E s := by
  have hroom := R.room
  obtain ⟨K, hKf, hKs, hK, hKb⟩ := R.laid.free (by rw [List.length_map]; omega) (thash P w k)
  rw [List.length_map] at hKs
  unfold setSearch
  refine seek R hx hu hKf hK hKb hin (fun hn => hout K hn hK hKb) 100000 0 none rfl (Nat.zero_le _) (by omega) fun i p hp hk => ?_
  have hi : (L.map fun p => thash P w p.2)[i]? = some (thash P w k) := by simp [hp, hk]
  have hil : i < t.place.toList.length := by rw [R.laid.len]; exact (List.getElem?_eq_some_iff.mp hi).1
  obtain ⟨c, hc, e⟩ := R.laid.ahead hK hi (List.getElem?_eq_getElem hil)
  exact ⟨c, Nat.zero_le _, hc, by rw [List.getElem?_eq_getElem hil, e]⟩

/-- one more tuple, or the same -/
theorem put_in (R : Sett P w s.heap a L es ep t) (hl : L.length + 1 < 8000) {x : Addr} {k : List Int} (hx : IsT P w s.heap k x) (hu : A.units < cLine) {Q : Bool → Shared → Prop}
    (hQ : ∀ b h' L' es' ep' t', Heap.SameBut a s.heap h' → Sett P w h' a L' es' ep' t' → (k ∈ L.map (·.2) → L' = L) → (k ∉ L.map (·.2) → L'.Perm ((x, k) :: L)) → Q b { s with heap := h' }) :
    wpAny (model P w) A (setAddHashed a (.ref x) (thash P w k)) Q E s := by
  obtain ⟨o, ho, hex, hd⟩ := R.ob
  have fit := R.fits
  have hsl := R.size
  have hroom := R.room
  unfold setAddHashed
  refine wpAny_holding ?_
  rw [show (100000 : Nat) = 99999 + 1 from rfl, setAddHashedIn_succ]
  refine wpAny_bind (wpAny_setState_of ho hd fit ?_)
  dsimp only
  refine wp_if_neg (by simp [byScan, Value.scannable]) ?_
  try refine wpAny_bind (wpAny_pure ?_)
  refine wpAny_bind (seek_add R (by omega) hx hu (fun hm => ?_) fun K hm hK hb => ?_)
  · dsimp only
    exact wpAny_pure (hQ false s.heap L es ep t (Heap.SameBut.refl a s.heap) R (fun _ => rfl) fun z => absurd hm z)
  dsimp only
  refine wpAny_bind (wpAny_setState_of ho hd fit ?_)
  dsimp only
  obtain ⟨t1, p, ept, q2, q3, q4, q5, q6, q9⟩ := R.laid.more hK hb
  rw [ept]
  dsimp only
  have hp1 : t1.plain = true := q6.trans R.plain
  first
    | (refine wpAny_bind ?_; refine wp_if_pos hp1 ?_; refine hashBy_tup hx ?_)
    | refine wp_if_pos hp1 (wpAny_bind (hashBy_tup hx ?_))
  simp only [if_true]
  have hin : (SetTable.insertAt es p (thash P w k, Value.ref x)).toList = rowsOf P w (L.take p ++ (x, k) :: L.drop p) := by
    rw [SetTable.toList_insertAt, rows_put, R.rows]
  have pm := put_perm L p (x, k)
  have q3' : Laid t1 ((L.take p ++ (x, k) :: L.drop p).map fun p => thash P w p.2) := by simpa [List.map_take, List.map_drop] using q3
  generalize SetTable.insertAt es p (thash P w k, Value.ref x) = es1 at hin ⊢
  generalize L.take p ++ (x, k) :: L.drop p = L1 at pm q3' hin
  have hlen : L1.length = L.length + 1 := pm.length_eq
  have hes : es1.size = L1.length := rows_len hin
  have nd1 : (L1.map (·.2)).Nodup := (pm.map (·.2)).nodup_iff.mpr (List.nodup_cons.mpr ⟨hm, R.nd⟩)
  have big : L1.length ≤ sizeLine := by rw [sizeLine_eq]; omega
  refine wpAny_bind (wpAny_storeSet_of ho hd ?_ (by omega))
  have sb : Heap.SameBut a s.heap (s.heap.update a (Obj.putSet es1 t1)) := Heap.SameBut.update ..
  have ho1 := store_at (es' := es1) (t' := t1) ho hd
  generalize s.heap.update a (Obj.putSet es1 t1) = h1 at sb ho1 ⊢
  have tup1 : ∀ p, p ∈ L1 → IsT P w h1 p.2 p.1 := fun p hp => by
    rcases List.mem_cons.mp (pm.mem_iff.mp hp) with rfl | hp
    · exact isT_same hx ho hd sb
    · exact isT_same (R.tup p hp) ho hd sb
  have ld1 : w.params.followText "set-order" = true ∨ t1.led = true := by rw [q5]; exact R.led
  rw [List.length_map] at q9
  have fullE : t1.tooFull = decide ((L.length + 1) * 5 ≥ t.mask * 3) := by unfold SetTable.tooFull; rw [q9, q4]
  by_cases hf : t1.tooFull = true
  · first
      | (refine wpAny_bind ?_; refine wp_if_pos (by simp [hf]) ?_)
      | (refine wp_if_pos (by simp [hf]) ?_; refine wpAny_bind ?_)
    rw [fullE, decide_eq_true_eq] at hf
    have hm7 := R.laid.good.ge
    obtain ⟨M, w1, w2, w3, w4⟩ := above_good (u := L.length + 1) (by omega) (by omega)
    obtain ⟨t2, order, e, hp, T2, em, el, ep'⟩ := laid_anew t1 (hs := es1.map (·.1)) w1 w2 (by rw [Array.size_map, hes, hlen]; omega)
    rw [Array.size_map, hes] at hp
    obtain ⟨L2, r1, r2, r3⟩ := order_rows L1 es1 order hin hp
    rw [← r3] at T2
    have hl2 : L2.length = L.length + 1 := r2.length_eq.trans hlen
    have hs2 : (order.filterMap (es1[·]?)).size = es1.size := by rw [rows_len r1, r2.length_eq, hes]
    rw [hsl, setRelay_eq]
    refine wpAny_bind (wpAny_setState_of (s := { s with heap := h1 }) ho1 rfl (fits_of q3' hes (by rw [q4]; omega)) ?_)
    dsimp only
    refine wp_if_neg (by rw [sizeLine_eq]; omega) ?_
    try refine wpAny_bind (wpAny_pure ?_)
    rw [e]
    dsimp only
    refine wpAny_bind ?_
    refine wp_if_neg (by rw [hs2]; simp) ?_
    try refine wpAny_bind (wpAny_pure ?_)
    refine wpAny_pure ?_
    dsimp only
    refine wpAny_storeSet_of (s := { s with heap := h1 }) ho1 rfl ?_ (by rw [hs2, hes]; exact big)
    have sb2 : Heap.SameBut a h1 (h1.update a (Obj.putSet (order.filterMap (es1[·]?)) t2)) := Heap.SameBut.update ..
    refine wpAny_pure (hQ true _ L2 (order.filterMap (es1[·]?)) _ t2 (sb.trans sb2) ⟨⟨_, store_at ho1 rfl, ⟨hex.1, hex.2.1, hex.2.2⟩, rfl⟩, r1, T2, (r2.map (·.2)).nodup_iff.mpr nd1, fun p hp => isT_same (tup1 p (r2.mem_iff.mp hp)) ho1 rfl sb2, by rw [ep']; exact hp1, by rw [el]; exact ld1, by rw [em, hl2]; exact w3⟩ (fun z => absurd z hm) fun _ => r2.trans pm)
  · first
      | refine wp_if_neg (by simp [hf]) ?_
      | (refine wpAny_bind ?_; refine wp_if_neg (by simp [hf]) ?_; refine wpAny_pure ?_)
    rw [fullE, decide_eq_true_eq] at hf
    exact wpAny_pure (hQ true h1 L1 es1 (ep + 1) t1 sb ⟨⟨_, ho1, ⟨hex.1, hex.2.1, hex.2.2⟩, rfl⟩, hin, q3', nd1, tup1, hp1, ld1, by rw [hlen, q4]; omega⟩ (fun z => absurd z hm) fun _ => pm)
end
end Mn.Big

/-! MnS4: set(xs) of a list of tuples of whole numbers. -/
namespace Mn.Big
open PySem PySem.Spec PyProof.Rows L2

section
variable {P : Program} {w : World} {A : Around} {E : Value → Shared → Prop} {s : Shared}
theorem Sett.keep {h h' : Heap} {a : Addr} {L : List (Addr × List Int)} {es : Array (Int × Value)} {ep : Nat} {t : SetTable} (R : Sett P w h a L es ep t) (ha : ∀ o, h.get? a = some o → h'.get? a = some o) (ht : ∀ p, p ∈ L → IsT P w h' p.2 p.1) : Sett P w h' a L es ep t := by
  obtain ⟨o, ho, r⟩ := R.ob
  exact ⟨⟨o, ha o ho, r⟩, R.rows, R.laid, R.nd, ht, R.plain, R.led, R.room⟩
/-- the object of a new set -/
abbrev newSet (w : World) : Obj := { cls := .type "set", dict := none, data := .set #[] 0 (.fresh 0 0 (!w.params.followText "set-order")) }
theorem Sett.new {h : Heap} {a : Addr} (ho : h.get? a = some (newSet w)) : Sett P w h a [] #[] 0 (.fresh 0 0 (!w.params.followText "set-order")) where
  ob := ⟨_, ho, ⟨rfl, rfl, rfl⟩, rfl⟩
  rows := rfl
  laid := ⟨List.Pairwise.nil, rfl, rfl, ⟨3, by omega, by omega, rfl⟩, fun x hx => (by cases hx), fun i h j hi => (by simp at hi)⟩
  nd := List.nodup_nil
  tup := fun p hp => (by cases hp)
  plain := rfl
  led := by
    show _ ∨ (!w.params.followText "set-order") = true
    cases w.params.followText "set-order"
    · exact .inr rfl
    · exact .inl rfl
  room := by show 0 * 5 < 7 * 3; decide
/-- a set of some of ks -/
def Part (P : Program) (w : World) (h : Heap) (a : Addr) (ks : List (Addr × List Int)) (i : Nat) : Prop := ∃ L es ep t, Sett P w h a L es ep t ∧ Got ks i L

theorem loop_tups {I : Addr} {fp wr : List Addr} {G : Array GenState → Array GenState → Prop} {Pv : Nat → Value → Prop} {St : Nat → Shared → Prop} {R : Result → Shared → Prop} (ks : List (Addr × List Int))
    (W : WalksS P w A.in1 I fp wr G ks.length Pv St) (S : Addr) (hSf : S ∉ fp) (few : ks.length < 8000) (hval : ∀ i v, Pv i v → ∃ p, ks[i]? = some p ∧ v = .ref p.1)
    (h0 : Heap) (hk : ∀ p, p ∈ ks → IsT P w h0 p.2 p.1) (hS0 : h0.get? S = none) (hw0 : ∀ b, b ∈ wr → h0.get? b = none) (hu : A.in1.units < cLine) :
    ∀ (d i : Nat) (s : Shared), i + d = ks.length → St i s → (∀ b o, h0.get? b = some o → s.heap.get? b = some o) → Part P w s.heap S ks i →
      (∀ s', Moved (S :: wr) G s s' → Part P w s'.heap S ks ks.length → (∀ b o, h0.get? b = some o → s'.heap.get? b = some o) → R (.ok (.ret .none)) s') →
      codeAny (model P w) A (.builtin "set.update.loop" ⟨[.ref S, .ref I], []⟩) R s := by
  have hSw : S ∉ wr := fun h => hSf (W.sub _ h)
  have more : ∀ b, b ∈ wr → b ∈ S :: wr := fun b hb => List.mem_cons_of_mem _ hb
  -- one turn of the iterator leaves the set and what was there
  have stays : ∀ {i : Nat} {s s' : Shared}, Moved wr G s s' → (∀ b o, h0.get? b = some o → s.heap.get? b = some o) → Part P w s.heap S ks i → (∀ b o, h0.get? b = some o → s'.heap.get? b = some o) ∧ Part P w s'.heap S ks i := fun {i s s'} hm hkp ⟨L, es, ep, t, hS, g⟩ => by
    have kp : ∀ b o, h0.get? b = some o → s'.heap.get? b = some o := fun b o e => hm.heap b o (fun hb => by rw [hw0 b hb] at e; cases e) (hkp b o e)
    exact ⟨kp, L, es, ep, t, hS.keep (fun o e => hm.heap S o hSw e) fun p hp => isT_keep (hk p (List.mem_of_mem_take (g.sub p hp))) kp, g⟩
  intro d
  induction d with
  | zero =>
    intro i s hi hst hkp hS hR
    obtain rfl : i = ks.length := hi
    refine codeAny_builtin F.entry_set_update_loop ?_
    rw [Around.under_plainId F.plain_set_update_loop _]
    show wpAny _ A.in1 (pyNext (.ref I) >>= _) _ _ s
    refine wpAny_bind (W.done s _ _ hst fun s' hm => ?_)
    show wpAny _ A.in1 (ret Value.none) _ _ s'
    obtain ⟨k1, k2⟩ := stays hm hkp hS
    exact wpAny_pure (hR s' (hm.mono more) k2 k1)
  | succ d ih =>
    intro i s hi hst hkp hS hR
    refine codeAny_builtin F.entry_set_update_loop ?_
    rw [Around.under_plainId F.plain_set_update_loop _]
    show wpAny _ A.in1 (pyNext (.ref I) >>= _) _ _ s
    refine wpAny_bind (W.item i s _ _ (by omega) hst fun v s' hP hst' hm => ?_)
    obtain ⟨p, hp, rfl⟩ := hval i v hP
    obtain ⟨k1, L, es, ep, t, hS', g⟩ := stays hm hkp hS
    have hx : IsT P w s'.heap p.2 p.1 := isT_keep (hk p (List.mem_of_getElem? hp)) k1
    show wpAny _ A.in1 (holding [Value.ref p.1] (setAdd S (.ref p.1)) >>= _) _ _ s'
    refine wpAny_bind (wpAny_holding ?_)
    unfold setAdd
    refine wpAny_holding ?_
    refine wpAny_bind (wpAny_pyHash_tuple hu hx ?_)
    refine put_in (s := { s' with toks := s'.toks + (p.2.length + 1) }) hS' (by have := g.len; omega) hx hu fun b h' L' es' ep' t' hsb hS2 c1 c2 => ?_
    have g' : Got ks (i + 1) L' := (Classical.em (p.2 ∈ L.map (·.2))).elim (fun c => by rw [c1 c]; exact g.same hp c) fun c => g.more hp (c2 c)
    have k2 : ∀ b o, h0.get? b = some o → h'.get? b = some o := fun b o e => (hsb.2 b (fun z => by rw [z, hS0] at e; cases e)).trans (k1 b o e)
    refine wpAny_pure ⟨plainId_quiet F.plain_set_update_loop _, ih (i + 1) _ (by omega) (W.frame _ s' _ _ hst' (Nat.le_add_right _ _) fun b hb o e => ?_) k2 ⟨L', es', ep', t', hS2, g'⟩ fun s'' hm'' hS'' k3 => ?_⟩
    · rw [hsb.2 b (fun h : b = S => hSf (by rw [← h]; exact hb))]; exact e
    · refine hR s'' (Moved.trans W.gtrans ((hm.mono more).then_heap (Nat.le_add_right _ _) fun b o hb e => ?_) hm'') hS'' k3
      rw [hsb.2 b (fun h : b = S => hb (by rw [h]; exact List.mem_cons_self))]; exact e

set_option maxHeartbeats 3200000 in
/-- set(xs) -/
theorem set_of_tups {l : Addr} {items : Array Value} (ks : List (Addr × List Int)) {Q : Value → Shared → Prop} (hh : A.handled = none) (hl : s.heap.IsList l items) (hit : items.toList = ks.map fun p => Value.ref p.1)
    (hk : ∀ p, p ∈ ks → IsT P w s.heap p.2 p.1) (few : ks.length < 8000) (hu : A.units + 3 < cLine)
    (h : ∀ (h' : Heap) (tk : Nat), Part P w h' s.heap.objs.size ks ks.length → (∀ b o, s.heap.get? b = some o → h'.get? b = some o) → Q (.ref s.heap.objs.size) { s with heap := h', toks := tk }) :
    wpAny (model P w) A (call (.type "set") [.ref l]) Q E s := by
  have hsz : items.size = ks.length := by have q := congrArg List.length hit; simpa using q
  obtain ⟨c, tl, hmro⟩ := F.called_set.mro
  have hmade := F.called_set.made
  have hsub := F.called_set.sub
  have h1 := F.called_set.notType
  have h2 := F.called_set.canCreate
  have hct := F.typeCall_set_1 (.ref l)
  -- what was there, with the set pushed on
  have gone : ∀ b, s.heap.objs.size ≤ b → s.heap.get? b = none := fun b hb => by
    cases q : s.heap.get? b with
    | none => rfl
    | some o => exact absurd (Nat.lt_of_lt_of_le (Heap.lt_size q) hb) (Nat.lt_irrefl _)
  refine wpAny_call (codeAny_of_tree ?_)
  show wpAny _ _ (callAny (.type "set") _) _ _ _
  refine wpAny_pure ⟨Code.quiet_builtin _ (by decide +kernel), codeAny_builtin F.entry_type_call ?_⟩
  rw [Around.under_plain (weight_type_call_type "set" [.ref l] []) rfl]
  repeat (any_goals (first | assumption | wp_step))

  refine codeAny_mono (code_set_led1 (.ref l) (E := E) (Q₁ := fun obj s₁ => obj = .ref s.heap.objs.size ∧ s₁ = { s with heap := s.heap.push (newSet w) }) ⟨rfl, rfl⟩) fun r s₁ hr => ?_
  cases r with
  | error e => exact hr
  | ok fl =>
    cases fl with
    | ret obj =>
      obtain ⟨rfl, rfl⟩ := hr
      have hS : (s.heap.push (newSet w)).get? s.heap.objs.size = some (newSet w) := Heap.get?_push_size _ rfl
      have hT : Shared.TypeIs { s with heap := s.heap.push (newSet w) } (.ref s.heap.objs.size) "set" := ⟨_, hS, rfl⟩
      have hli := F.called_set.init.lookup
      have hbi := F.called_set.init.bind (.ref s.heap.objs.size)
      repeat (any_goals (first | assumption | wp_step))

      refine codeAny_mono (codeAny_call_builtin (R := wants (fun r s₂ => r = .none ∧ ∃ h' tk, s₂ = { s with heap := h', toks := tk } ∧ Part P w h' s.heap.objs.size ks ks.length ∧
          (∀ b o, s.heap.get? b = some o → h'.get? b = some o)) E) F.called_set.init.plain F.entry_set_init (check_set_init_1 hT ?_)) fun r₂ s₂ hr₂ => ?_
      · obtain ⟨ol, hol, hcl, nl, hdl⟩ := hl
        obtain ⟨ocls, odict, odata, oslots⟩ := ol
        simp only at hcl hdl
        subst hcl; subst hdl
        have hol' : (s.heap.push (newSet w)).get? l = some { cls := .type "list", dict := odict, data := .seq items nl, slots := oslots } := Heap.get?_push_of_some _ hol
        have hl1 : (s.heap.push (newSet w)).IsList l items := ⟨_, hol', rfl, nl, rfl⟩
        have hsls := F.sub_list_set
        have hslf := F.sub_list_frozenset
        have hne : (Value.type "list" == Value.type "dict") = false := by decide
        have hlS : l < s.heap.objs.size := Heap.lt_size hol
        have hz1 : (s.heap.push (newSet w)).objs.size = s.heap.objs.size + 1 := Heap.size_push ..
        have hneI : l ≠ (s.heap.push (newSet w)).objs.size := by rw [hz1]; exact Nat.ne_of_lt (Nat.lt_succ_of_lt hlS)
        unfold Builtin.«set.__init__» noKeywords Builtin.Frozenset.updateFrom
        generalize hPI : pyIter = PI
        wp_walk
        subst hPI

        refine wpAny_pyIter_list hl1 ?_
        refine wpAny_bind (wpAny_runValue ?_)
        have hh3 : A.in1.in1.in1.handled = none := by simp [hh]
        have WW := (Walks.list (prog := P) (w := w) hh3 _ l hneI items).toS
        rw [hsz] at WW
        refine loop_tups ks WW s.heap.objs.size (by
            rw [hz1]
            simp only [List.mem_cons, List.not_mem_nil, or_false, not_or]
            exact ⟨Nat.ne_of_lt (Nat.lt_succ_self _), Nat.ne_of_gt hlS⟩) few (fun i v hv => ?_) s.heap hk (gone _ (Nat.le_refl _)) (fun b hb => gone b (by
            rw [List.mem_singleton.mp hb, hz1]
            exact Nat.le_succ _)) hu ks.length 0 _ (Nat.zero_add _) ⟨⟨_, Heap.get?_push_size _ rfl, rfl, rfl⟩, (hl1.push _)⟩ (fun b o e => Heap.get?_push_of_some _ (Heap.get?_push_of_some _ e))
            ⟨[], #[], 0, _, Sett.new (Heap.get?_push_of_some _ hS), Got.zero ks⟩ fun s' hm hS' hkp => ?_
        · have q : items.toList[i]? = some v := by rw [Array.getElem?_toList]; exact hv
          rw [hit, List.getElem?_map] at q
          obtain ⟨p, hp, e⟩ := Option.map_eq_some_iff.mp q
          exact ⟨p, hp, e.symm⟩
        · obtain ⟨h', g2, d', tk', os'⟩ := s'
          obtain rfl : g2 = s.gens := hm.gens
          obtain rfl : d' = s.drawn := hm.drawn
          obtain rfl : os' = s.os := hm.os
          show wpAny _ _ _ _ _ _
          refine wpAny_pure ?_
          show wpAny _ _ (ret Value.none) _ _ _
          exact wpAny_pure ⟨rfl, h', tk', rfl, hS', hkp⟩

      · cases r₂ with
        | error e => exact hr₂
        | ok fl₂ =>
          cases fl₂ with
          | ret r =>
            obtain ⟨rfl, h', tk, rfl, hS', hk'⟩ := hr₂
            repeat (any_goals (first | assumption | wp_step))
            exact h _ _ hS' hk'
          | _ => exact hr₂.elim
    | _ => exact hr.elim
end
end Mn.Big

/-! MnTr: t[::-1] of a tuple. -/
namespace Mn
open PySem PySem.Spec PyProof.Rows L2 HT

theorem rev_pick (xs : List Value) : ∀ n, n ≤ xs.length → (List.range n).filterMap (fun (k : Nat) => xs[((n : Int) - 1 + (k : Int) * (-1)).toNat]?) = (xs.take n).reverse
  | 0, _ => rfl
  | n + 1, h => by
    rw [List.range_succ_eq_map, List.filterMap_cons, List.filterMap_map]
    have e0 : (((n + 1 : Nat) : Int) - 1 + ((0 : Nat) : Int) * (-1)).toNat = n := by omega
    rw [e0, List.getElem?_eq_getElem (show n < xs.length by omega)]
    have e1 : ((fun (k : Nat) => xs[(((n + 1 : Nat) : Int) - 1 + (k : Int) * (-1)).toNat]?) ∘ Nat.succ) = fun (k : Nat) => xs[((n : Int) - 1 + (k : Int) * (-1)).toNat]? := by
      funext k
      show xs[(((n + 1 : Nat) : Int) - 1 + ((k + 1 : Nat) : Int) * (-1)).toNat]? = _
      have : (((n + 1 : Nat) : Int) - 1 + ((k + 1 : Nat) : Int) * (-1)).toNat = ((n : Int) - 1 + (k : Int) * (-1)).toNat := by omega
      rw [this]
    rw [e1, rev_pick xs n (by omega), List.take_succ, List.getElem?_eq_getElem (show n < xs.length by omega), Option.toList_some, List.reverse_append]
    rfl
section
variable {prog : Program} {w : World} {A : Around} {E : Value → Shared → Prop} {s : Shared}
theorem getItem_tuple_rev {t sl : Addr} {items : Array Value} {vl vu vs : Value} {Q : Value → Shared → Prop} (ht : IsTup s.heap t items) (hs : s.heap.IsSliceOf sl vl vu vs) (pl : IsPart vl none) (pu : IsPart vu none) (ps : IsPart vs (some (-1)))
    (h : Q (.ref s.heap.objs.size) { s with heap := s.heap.push { cls := .type "tuple", data := .seq items.toList.reverse.toArray } })
    (hsz : items.size ≤ sizeLine) : wpAny (model prog w) A (getItem (.ref t) (.ref sl)) Q E s := by
  have htake : sizeOk (.seq items.toList.reverse.toArray) := by
    show items.toList.reverse.toArray.size ≤ sizeLine
    rw [List.size_toArray, List.length_reverse, Array.length_toList]
    exact hsz
  obtain ⟨os, hos, hcs, hds⟩ := id hs
  have hTs : s.TypeIs (.ref sl) "slice" := ⟨os, hos, hcs⟩
  unfold getItem
  try with_reducible refine wpAny_holding ?_
  first | refine wpAny_bind (wpAny_pure ?_) | skip
  refine wpAny_bind (wpAny_sequenceKey ht.typeIs (by decide) ?_)
  refine wpAny_bind (wpAny_callSpecial?_slot (name := Str.ofString "__getitem__") ht.typeIs PyProof.Rows.slot_tuple_getitem
    (wpAny_call_entry PyProof.Rows.slot_tuple_getitem ht.typeIs entry_tuple_getitem ?_ (args_tuple_getitem _ _)))
  show wpAny _ _ (Builtin.Tuple.tupleItemsOf (.ref t) >>= _) _ _ s
  refine wpAny_bind (tupleItemsOf_ ht ?_)
  refine wpAny_bind (wpAny_typeOf hTs ?_)
  rw [if_pos (by decide)]
  have ap : ∀ {A : Around} {Q : Int × Int × Nat → Shared → Prop}, Q ((items.size : Int) - 1, -1, items.size) s → wpAny (model prog w) A (Builtin.Slice.sliceApplied (.ref sl) (pure (items.size : Int))) Q E s := fun {A Q} h => by
    unfold Builtin.Slice.sliceApplied Builtin.Slice.sliceFields
    refine wpAny_bind (wpAny_bind (wpAny_field hos hds (x := vl) rfl (wpAny_bind (wpAny_field hos hds (x := vu) rfl (wpAny_bind (wpAny_field hos hds (x := vs) rfl (wpAny_pure ?_)))))))
    refine wpAny_bind (slicePart_ ps ?_)
    show wpAny _ _ (if ((-1 : Int) == 0) = true then _ else _) _ _ s
    rw [if_neg (by decide)]
    refine wpAny_bind (slicePart_ pl (wpAny_bind (slicePart_ pu (wpAny_bind (wpAny_pure ?_)))))
    show wpAny _ _ (pure ((items.size : Int) - 1, (-1 : Int), Builtin.Slice.slicePlaces ((items.size : Int) - 1) (-1) (-1))) _ _ s
    have e : Builtin.Slice.slicePlaces ((items.size : Int) - 1) (-1) (-1) = items.size := by
      unfold Builtin.Slice.slicePlaces
      rw [if_neg (by decide)]
      split
      · simp
      · omega
    rw [e]
    exact wpAny_pure h
  refine wpAny_bind (ap ?_)
  show wpAny _ _ (if (((items.size : Int) - 1) == 0 && (-1 : Int) == 1 && items.size == items.size) = true then _ else _) _ _ s
  rw [if_neg (by simp)]
  have ep : ((List.range items.size).filterMap fun (k : Nat) => items[((items.size : Int) - 1 + (k : Int) * (-1)).toNat]?).toArray = items.toList.reverse.toArray := by
    have := rev_pick items.toList items.size (by simp)
    have e2 : (fun (k : Nat) => items.toList[((items.size : Int) - 1 + (k : Int) * (-1)).toNat]?) = fun (k : Nat) => items[((items.size : Int) - 1 + (k : Int) * (-1)).toNat]? := by
      funext k; exact Array.getElem?_toList ..
    rw [e2] at this
    rw [this]
    congr 2
    rw [List.take_of_length_le (by simp)]
  rw [ep]
  first
    | exact wpAny_bind (m := Builtin.Tuple.tupleExact _) (wpAny_newObj_type (wpAny_pure ⟨_, rfl, wpAny_pure h⟩) htake)
    | exact wpAny_bind (m := Builtin.Tuple.tupleExact _) (wpAny_newObj_type (wpAny_bind (wpAny_pure (wpAny_pure ⟨_, rfl, wpAny_pure h⟩))) htake)
    | exact wpAny_bind (wpAny_bind (m := Builtin.Tuple.tupleExact _) (wpAny_newObj_type (wpAny_pure (wpAny_pure ⟨_, rfl, wpAny_pure h⟩)) htake))
    | exact wpAny_bind (wpAny_bind (m := Builtin.Tuple.tupleExact _) (wpAny_newObj_type (wpAny_pure ⟨_, rfl, wpAny_pure h⟩) htake))
end
/-- x[::-1], x a list or a tuple -/
def tRev2 (K : PySem.W.Frag) (te : TE) : TE := fun σ H Q => te σ H fun x H1 => (∃ a xs, x = .ref a ∧ SqL K H1 a xs ∧ ∀ p, H1 p = none → Q (.ref p) (upd H1 p (.lst xs.reverse))) ∨
  (∃ a xs, x = .ref a ∧ SqT K H1 a xs ∧ ∀ p, H1 p = none → Q (.ref p) (upd H1 p (.tup xs.reverse)))
section
variable {X : Cx}
theorem pe_rev2 {e : Expr} {te : TE} {k : Nat} {p1 p2 p3 pos : Pos} (he : PE X e te) : PE X (.Subscript e (.Slice none none (some (.UnaryOp .USub (.Constant (.int 1) k p1) p2)) p3) pos) (tRev2 X.K te) := by
  refine ⟨fun pins s σ H Q I h => ?_⟩
  refine Subscript_ (thn (he.run pins s σ H _ I h) fun v s1 ⟨x, H1, I1, r1, q1⟩ => ?_)
  have hst : PO X (some (.UnaryOp .USub (.Constant (.int 1) k p1) p2)) (tPart (tUn (rU fun i => .int (-i)) (tC (.int 1)))) := po_some (pe_un un_neg pe_int)
  refine wpAny_Slice (thn (po_none.run pins s1 σ H1 (fun o H2 => o = none ∧ H2 = H1) I1 ⟨rfl, rfl⟩) fun vl s2 ⟨l, H2, I2, pl, el, e2⟩ => ?_)
  subst el e2
  refine thn (po_none.run pins s2 σ H2 (fun o H3 => o = none ∧ H3 = H2) I2 ⟨rfl, rfl⟩) fun vu s3 ⟨u, H3, I3, pu, eu, e3⟩ => ?_
  subst eu e3
  refine thn (hst.run pins s3 σ H3 (fun o H4 => o = some (-1) ∧ H4 = H3) I3 ⟨1, rfl, -1, rfl, rfl, rfl⟩) fun vs s4 ⟨o, H4, I4, ps, eo, e4⟩ => ?_
  subst eo e4
  have I5 : Inv X pins σ H4 { s4 with heap := s4.heap.push { cls := .type "slice", data := .fields #[vl, vu, vs] } } := I4.kept (t' := s4.toks) fun b ob q => Heap.get?_push_of_some _ q
  rcases q1 with ⟨a, xs, ex, hx, q⟩ | ⟨a, xs, ex, hx, q⟩
  · subst ex
    cases r1
    obtain ⟨its, r, ht, hz⟩ := I5.list hx
    have hlen := r.length
    show wpAny (model X.prog X.w) X.A (subscriptTail e (.Slice none none (some (.UnaryOp .USub (.Constant (.int 1) k p1) p2)) p3) (.ref a) (.ref s4.heap.objs.size)) (EP X pins σ Q) X.xe { s4 with heap := s4.heap.push { cls := .type "slice", data := .fields #[vl, vu, vs] } }
    refine tail_any (ops := [.ref a, .ref s4.heap.objs.size]) ht.isList.typeIs (PySem.slot_list_getitem.lookup) ?_ (by with_unfolding_all rfl)
    refine wpAny_getItem_list_slice ht.isList (Heap.IsSliceOf.new _ vl vu vs) pl pu ps (by decide) ?_ (by rw [List.size_toArray]; omega)
    rw [PySem.W.krv_pick]
    refine ⟨.ref _, _, I5.laid (t' := s4.toks) (o := .lst xs.reverse) (fun b ob q => Heap.get?_push_of_some _ q) (Nat.le_refl _) ?_, rfl, q _ (I5.hok.fresh (Nat.le_refl _))⟩
    exact ⟨by rw [List.length_reverse]; exact hz, _, 0, r.reverse, Heap.get?_push_size _ rfl⟩
  · subst ex
    cases r1
    obtain ⟨its, r, ht, hz⟩ := I5.tuple hx
    have hlen := r.length
    show wpAny (model X.prog X.w) X.A (subscriptTail e (.Slice none none (some (.UnaryOp .USub (.Constant (.int 1) k p1) p2)) p3) (.ref a) (.ref s4.heap.objs.size)) (EP X pins σ Q) X.xe { s4 with heap := s4.heap.push { cls := .type "slice", data := .fields #[vl, vu, vs] } }
    refine tail_any (ops := [.ref a, .ref s4.heap.objs.size]) ht.typeIs (PyProof.Rows.slot_tuple_getitem.lookup) ?_ (by with_unfolding_all rfl)
    refine getItem_tuple_rev ht (Heap.IsSliceOf.new _ vl vu vs) pl pu ps ?_ (by rw [List.size_toArray]; omega)
    refine ⟨.ref _, _, I5.laid (t' := s4.toks) (o := .tup xs.reverse) (fun b ob q => Heap.get?_push_of_some _ q) (Nat.le_refl _) ?_, rfl, q _ (I5.hok.fresh (Nat.le_refl _))⟩
    exact ⟨by rw [List.length_reverse]; exact hz, _, r.reverse, IsTup.new _ _⟩
end
end Mn

/-! MnB: a value of the heap stands for a datum. F: the part of the heap that nobody changes any more; S: the lists with one owner. -/
namespace Mn
open PySem L2

/-- an exception of the class cls, at a -/
def ExV (cls : Value) (a : Addr) : HO := .ext fun h => ∃ (oe : Obj) (vs : Array Value), h.get? a = some oe ∧ Zc cls none oe ∧ oe.data = .fields vs
mutual
def hash0 : NestedKey → Int
  | .none => 0
  | .num i => hashInt i
  | .text _ => 0
  | .tup ks => reduceHash (Builtin.Tuple.tupleHashOf (hashes0 ks))
def hashes0 : List NestedKey → List Int
  | [] => []
  | k :: ks => hash0 k :: hashes0 ks
end
abbrev NEs : Type := List (NestedKey × Addr × V)
def NdR (es : NEs) (xs : List (NestedKey × Addr × Value)) : Prop := Paired (fun p q => p.1 = q.1 ∧ p.2.1 = q.2.1 ∧ RelV p.2.2 q.2.2) es xs
/-- a dict with tuples as keys, at a: its keys, where their tuples stand, its values -/
def NdO (a : Addr) (es : NEs) : HO := .ext fun h => es.length ≤ sizeLine ∧ (a == sysModules) = false ∧ ∃ xs : List (NestedKey × Addr × Value), NdR es xs ∧
  ∃ o ds ep, h.get? a = some o ∧ o.ExactDict ∧ o.data = .dict ds ep ∧ ds.toList = xs.map (fun x => ⟨hash0 x.1, .ref x.2.1, x.2.2⟩) ∧ (xs.map (·.1)).Nodup
def refA : V → Addr
  | .ref a => a
  | _ => 0
def keyN : D → NestedKey := fun d => d.key.getD .none
def kvI : List D → List V → List (Key × V)
  | .int i :: ks, u :: us => (.inl i, u) :: kvI ks us
  | _, _ => []
def kvN : List D → List V → List V → NEs
  | k :: ks, p :: ps, u :: us => (keyN k, refA p, u) :: kvN ks ps us
  | _, _, _ => []
/-- the dict at a -/
def dO (c : Bool) (a : Addr) (ks : List D) (ps us : List V) : HO := if c = true then .dK (kvI ks us) else NdO a (kvN ks ps us)
theorem exv_nd {cls : Value} {a : Addr} {es : NEs} : ExV cls a ≠ NdO a es := by
  intro e
  unfold ExV NdO at e
  injection e with e
  have h : ∃ h : Heap, h.get? a = some { cls := cls, data := .fields #[] } := by
    refine ⟨⟨Array.replicate (a + 1) { cls := cls, data := .fields #[] }, {}⟩, ?_⟩
    unfold Heap.get?
    simp
  obtain ⟨h, hh⟩ := h
  have z := congrFun e h
  have z1 : ∃ (oe : Obj) (vs : Array Value), h.get? a = some oe ∧ Zc cls none oe ∧ oe.data = .fields vs := ⟨_, #[], hh, ⟨rfl, rfl⟩, rfl⟩
  rw [z] at z1
  obtain ⟨_, _, xs, _, o, ds, ep, ho, _, hd, _⟩ := z1
  rw [hh] at ho
  cases ho
  cases hd
theorem dO_ne {c : Bool} {a : Addr} {ks : List D} {ps us : List V} : (∀ xs, dO c a ks ps us ≠ .tup xs) ∧ (∀ o u, dO c a ks ps us ≠ .frz o u) ∧ (∀ cls, dO c a ks ps us ≠ ExV cls a) ∧ Mut (some (dO c a ks ps us)) ∧ (∀ xs, dO c a ks ps us ≠ .lst xs) := by
  cases c
  · exact ⟨fun _ (e : NdO a (kvN ks ps us) = _) => (by unfold NdO at e; cases e), fun _ _ (e : NdO a (kvN ks ps us) = _) => (by unfold NdO at e; cases e), fun cls e => exv_nd (es := kvN ks ps us) e.symm, trivial, fun _ (e : NdO a (kvN ks ps us) = _) => (by unfold NdO at e; cases e)⟩
  · exact ⟨fun _ (e : HO.dK (kvI ks us) = _) => (by cases e), fun _ _ (e : HO.dK (kvI ks us) = _) => (by cases e), fun cls (e : HO.dK (kvI ks us) = _) => (by unfold ExV at e; cases e), trivial, fun _ (e : HO.dK (kvI ks us) = _) => (by cases e)⟩

mutual
def Rep (K : PySem.W.Frag) (F H : Hp) : D → V → List Addr → Prop
  | .any, _, S => S = []
  | .non, v, S => v = .non ∧ S = []
  | .bl b, v, S => v = .bl b ∧ S = []
  | .int i, v, S => v = .int i ∧ S = []
  | .str s, v, S => v = .str s ∧ S = []
  | .exc c, v, S => ∃ a, v = .ref a ∧ H a = some (ExV (.ref (He.ga K c)) a) ∧ S = []
  | .tup ds, v, S => ∃ a vs, v = .ref a ∧ H a = some (.tup vs) ∧ Reps K F H ds vs S
  | .lst .own ds, v, S => ∃ a vs S', v = .ref a ∧ H a = some (.lst vs) ∧ F a = none ∧ Reps K F H ds vs S' ∧ a ∉ S' ∧ S = a :: S'
  | .lst .frz ds, v, S => ∃ a vs, v = .ref a ∧ F a = some (.lst vs) ∧ Reps K F H ds vs [] ∧ S = []
  | .lst .ro ds, v, S => ∃ a vs, v = .ref a ∧ SqL K F a vs ∧ Reps K F H ds vs [] ∧ S = []
  | .dct .own c ks vs, v, S => ∃ a ps us, v = .ref a ∧ H a = some (dO c a ks ps us) ∧ F a = none ∧ Reps K F H ks ps [] ∧ Reps K F H vs us [] ∧ dwf c ks vs = true ∧ S = [a]
  | .dct .frz c ks vs, v, S => ∃ a ps us, v = .ref a ∧ F a = some (dO c a ks ps us) ∧ Reps K F H ks ps [] ∧ Reps K F H vs us [] ∧ dwf c ks vs = true ∧ S = []
  | .dct .ro _ _ _, _, _ => False
def Reps (K : PySem.W.Frag) (F H : Hp) : List D → List V → List Addr → Prop
  | [], vs, S => vs = [] ∧ S = []
  | d :: ds, vs, S => ∃ v vr S1 S2, vs = v :: vr ∧ Rep K F H d v S1 ∧ Reps K F H ds vr S2 ∧ (∀ a, a ∈ S1 → a ∉ S2) ∧ S = S1 ++ S2
end

section
variable {K : PySem.W.Frag} {F F' H H' : Hp}

theorem same_seqT {a : Addr} {xs : List V} (e : Same H H') (h : SqT K H a xs) : SqT K H' a xs := by
  rcases h with (h | ⟨o, h⟩) | h
  · exact .inl (.inl (e _ _ h))
  · exact .inl (.inr ⟨o, e _ _ h⟩)
  · exact .inr h
theorem same_none {a : Addr} (e : Same H H') (h : H' a = none) : H a = none := e.free h

mutual
theorem rep_mem : ∀ (d : D) {v : V} {S : List Addr}, Rep K F H d v S → ∀ a, a ∈ S → (∃ o, H a = some o) ∧ F a = none
  | .any, _, _, h, a, ha => by simp only [Rep] at h; subst h; cases ha
  | .non, _, _, h, a, ha => by simp only [Rep] at h; obtain ⟨_, rfl⟩ := h; cases ha
  | .bl _, _, _, h, a, ha => by simp only [Rep] at h; obtain ⟨_, rfl⟩ := h; cases ha
  | .int _, _, _, h, a, ha => by simp only [Rep] at h; obtain ⟨_, rfl⟩ := h; cases ha
  | .str _, _, _, h, a, ha => by simp only [Rep] at h; obtain ⟨_, rfl⟩ := h; cases ha
  | .exc _, _, _, h, a, ha => by simp only [Rep] at h; obtain ⟨_, _, _, rfl⟩ := h; cases ha
  | .tup ds, _, _, h, a, ha => by
    simp only [Rep] at h
    obtain ⟨b, vs, _, _, h⟩ := h
    exact reps_mem ds h a ha
  | .lst .own ds, _, _, h, a, ha => by
    simp only [Rep] at h
    obtain ⟨b, vs, S', _, h1, h2, h3, _, rfl⟩ := h
    rcases List.mem_cons.mp ha with rfl | ha
    · exact ⟨⟨_, h1⟩, h2⟩
    · exact reps_mem ds h3 a ha
  | .lst .frz ds, _, _, h, a, ha => by
    simp only [Rep] at h
    obtain ⟨b, vs, _, _, _, rfl⟩ := h
    cases ha
  | .lst .ro ds, _, _, h, a, ha => by
    simp only [Rep] at h
    obtain ⟨b, vs, _, _, _, rfl⟩ := h
    cases ha
  | .dct .own c ks vs, _, _, h, a, ha => by
    simp only [Rep] at h
    obtain ⟨b, ps, us, _, h1, h2, _, _, _, rfl⟩ := h
    simp only [List.mem_singleton] at ha
    subst ha
    exact ⟨⟨_, h1⟩, h2⟩
  | .dct .frz c ks vs, _, _, h, a, ha => by
    simp only [Rep] at h
    obtain ⟨b, ps, us, _, _, _, _, _, rfl⟩ := h
    cases ha
  | .dct .ro c ks vs, _, _, h, a, ha => by simp only [Rep] at h
theorem reps_mem : ∀ (ds : List D) {vs : List V} {S : List Addr}, Reps K F H ds vs S → ∀ a, a ∈ S → (∃ o, H a = some o) ∧ F a = none
  | [], _, _, h, a, ha => by simp only [Reps] at h; obtain ⟨_, rfl⟩ := h; cases ha
  | d :: ds, _, _, h, a, ha => by
    simp only [Reps] at h
    obtain ⟨v, vr, S1, S2, _, h1, h2, _, rfl⟩ := h
    rcases List.mem_append.mp ha with ha | ha
    · exact rep_mem d h1 a ha
    · exact reps_mem ds h2 a ha
end

mutual
/-- more is known, more is frozen -/
theorem rep_mono (hF : Same F F') (hH : Same H H') : ∀ (d : D) {v : V} {S : List Addr}, Rep K F H d v S → (∀ a, a ∈ S → F' a = none) → Rep K F' H' d v S
  | .any, _, _, h, _ => by simp only [Rep] at h ⊢; exact h
  | .non, _, _, h, _ => by simp only [Rep] at h ⊢; exact h
  | .bl _, _, _, h, _ => by simp only [Rep] at h ⊢; exact h
  | .int _, _, _, h, _ => by simp only [Rep] at h ⊢; exact h
  | .str _, _, _, h, _ => by simp only [Rep] at h ⊢; exact h
  | .exc _, _, _, h, _ => by
    simp only [Rep] at h ⊢
    obtain ⟨a, e, q, r⟩ := h
    exact ⟨a, e, hH _ _ q, r⟩
  | .dct .own c ks vs, _, _, h, hn => by
    simp only [Rep] at h ⊢
    obtain ⟨a, ps, us, e, h1, h2, h3, h4, h5, rfl⟩ := h
    exact ⟨a, ps, us, e, hH _ _ h1, hn a (by simp), reps_mono hF hH ks h3 (fun a ha => (List.not_mem_nil ha).elim), reps_mono hF hH vs h4 (fun a ha => (List.not_mem_nil ha).elim), h5, rfl⟩
  | .dct .frz c ks vs, _, _, h, hn => by
    simp only [Rep] at h ⊢
    obtain ⟨a, ps, us, e, h1, h3, h4, h5, rfl⟩ := h
    exact ⟨a, ps, us, e, hF _ _ h1, reps_mono hF hH ks h3 (fun a ha => (List.not_mem_nil ha).elim), reps_mono hF hH vs h4 (fun a ha => (List.not_mem_nil ha).elim), h5, rfl⟩
  | .dct .ro c ks vs, _, _, h, hn => by simp only [Rep] at h
  | .tup ds, _, _, h, hn => by
    simp only [Rep] at h ⊢
    obtain ⟨b, vs, e, q, h⟩ := h
    exact ⟨b, vs, e, hH _ _ q, reps_mono hF hH ds h hn⟩
  | .lst .own ds, _, _, h, hn => by
    simp only [Rep] at h ⊢
    obtain ⟨b, vs, S', e, h1, h2, h3, h4, rfl⟩ := h
    exact ⟨b, vs, S', e, hH _ _ h1, hn b (List.mem_cons_self), reps_mono hF hH ds h3 fun a ha => hn a (List.mem_cons_of_mem _ ha), h4, rfl⟩
  | .lst .frz ds, _, _, h, hn => by
    simp only [Rep] at h ⊢
    obtain ⟨b, vs, e, q, h, rfl⟩ := h
    exact ⟨b, vs, e, hF _ _ q, reps_mono hF hH ds h (fun a ha => (List.not_mem_nil ha).elim), rfl⟩
  | .lst .ro ds, _, _, h, hn => by
    simp only [Rep] at h ⊢
    obtain ⟨b, vs, e, q, h, rfl⟩ := h
    exact ⟨b, vs, e, hF.seq q, reps_mono hF hH ds h (fun a ha => (List.not_mem_nil ha).elim), rfl⟩
theorem reps_mono (hF : Same F F') (hH : Same H H') : ∀ (ds : List D) {vs : List V} {S : List Addr}, Reps K F H ds vs S → (∀ a, a ∈ S → F' a = none) → Reps K F' H' ds vs S
  | [], _, _, h, _ => by simp only [Reps] at h ⊢; exact h
  | d :: ds, _, _, h, hn => by
    simp only [Reps] at h ⊢
    obtain ⟨v, vr, S1, S2, e, h1, h2, h3, rfl⟩ := h
    exact ⟨v, vr, S1, S2, e, rep_mono hF hH d h1 fun a ha => hn a (List.mem_append_left _ ha), reps_mono hF hH ds h2 fun a ha => hn a (List.mem_append_right _ ha), h3, rfl⟩
end

/-- the heap is changed at p alone -/
structure Off (H H' : Hp) (p : Addr) : Prop where
  keep : ∀ b o, b ≠ p → H b = some o → H' b = some o
  tup : ∀ xs, H p ≠ some (.tup xs)
  frz : ∀ o u, H p ≠ some (.frz o u)
  exc : ∀ cls, H p ≠ some (ExV cls p)
theorem off_updD {p : Addr} {c : Bool} {ks : List D} {ps us : List V} {o : HO} (h : H p = some (dO c p ks ps us)) : Off H (upd H p o) p :=
  ⟨fun b o hb e => by rw [upd_ne hb]; exact e, fun ys e => dO_ne.1 ys (Option.some.inj (h.symm.trans e)), fun o u e => dO_ne.2.1 o u (Option.some.inj (h.symm.trans e)), fun cls e => dO_ne.2.2.1 cls (Option.some.inj (h.symm.trans e))⟩
theorem off_upd {p : Addr} {xs : List V} {o : HO} (h : H p = some (.lst xs)) : Off H (upd H p o) p :=
  ⟨fun b o hb e => by rw [upd_ne hb]; exact e, fun ys e => (by rw [h] at e; cases e), fun o u e => (by rw [h] at e; cases e), fun cls e => (by rw [h] at e; unfold ExV at e; cases e)⟩
theorem off_seqT {p a : Addr} {xs : List V} (e : Off H H' p) (h : SqT K H a xs) : SqT K H' a xs := by
  rcases h with (h | ⟨o, h⟩) | h
  · refine .inl (.inl (e.keep _ _ ?_ h))
    rintro rfl
    exact e.tup _ h
  · refine .inl (.inr ⟨o, e.keep _ _ ?_ h⟩)
    rintro rfl
    exact e.frz _ _ h
  · exact .inr h

mutual
theorem rep_off {p : Addr} (e : Off H H' p) : ∀ (d : D) {v : V} {S : List Addr}, Rep K F H d v S → p ∉ S → Rep K F H' d v S
  | .any, _, _, h, _ => by simp only [Rep] at h ⊢; exact h
  | .non, _, _, h, _ => by simp only [Rep] at h ⊢; exact h
  | .bl _, _, _, h, _ => by simp only [Rep] at h ⊢; exact h
  | .int _, _, _, h, _ => by simp only [Rep] at h ⊢; exact h
  | .str _, _, _, h, _ => by simp only [Rep] at h ⊢; exact h
  | .exc _, _, _, h, _ => by
    simp only [Rep] at h ⊢
    obtain ⟨a, e1, q, r⟩ := h
    exact ⟨a, e1, e.keep _ _ (fun z => e.exc _ (by rw [← z]; exact q)) q, r⟩
  | .dct .own c ks vs, _, _, h, hn => by
    simp only [Rep] at h ⊢
    obtain ⟨a, ps, us, e1, h1, h2, h3, h4, h5, rfl⟩ := h
    have hb : a ≠ p := fun z => hn (by rw [z]; simp)
    exact ⟨a, ps, us, e1, e.keep _ _ hb h1, h2, reps_off e ks h3 (fun z => (List.not_mem_nil z).elim), reps_off e vs h4 (fun z => (List.not_mem_nil z).elim), h5, rfl⟩
  | .dct .frz c ks vs, _, _, h, hn => by
    simp only [Rep] at h ⊢
    obtain ⟨a, ps, us, e1, h1, h3, h4, h5, rfl⟩ := h
    exact ⟨a, ps, us, e1, h1, reps_off e ks h3 (fun z => (List.not_mem_nil z).elim), reps_off e vs h4 (fun z => (List.not_mem_nil z).elim), h5, rfl⟩
  | .dct .ro c ks vs, _, _, h, hn => by simp only [Rep] at h
  | .tup ds, _, _, h, hn => by
    simp only [Rep] at h ⊢
    obtain ⟨b, vs, e1, q, h⟩ := h
    exact ⟨b, vs, e1, e.keep _ _ (fun z => e.tup vs (by rw [← z]; exact q)) q, reps_off e ds h hn⟩
  | .lst .own ds, _, _, h, hn => by
    simp only [Rep] at h ⊢
    obtain ⟨b, vs, S', e1, h1, h2, h3, h4, rfl⟩ := h
    have hb : b ≠ p := fun z => hn (by rw [z]; exact List.mem_cons_self)
    exact ⟨b, vs, S', e1, e.keep _ _ hb h1, h2, reps_off e ds h3 fun z => hn (List.mem_cons_of_mem _ z), h4, rfl⟩
  | .lst .frz ds, _, _, h, hn => by
    simp only [Rep] at h ⊢
    obtain ⟨b, vs, e1, q, h, rfl⟩ := h
    exact ⟨b, vs, e1, q, reps_off e ds h (fun z => (List.not_mem_nil z).elim), rfl⟩
  | .lst .ro ds, _, _, h, hn => by
    simp only [Rep] at h ⊢
    obtain ⟨b, vs, e1, q, h, rfl⟩ := h
    exact ⟨b, vs, e1, q, reps_off e ds h (fun z => (List.not_mem_nil z).elim), rfl⟩
theorem reps_off {p : Addr} (e : Off H H' p) : ∀ (ds : List D) {vs : List V} {S : List Addr}, Reps K F H ds vs S → p ∉ S → Reps K F H' ds vs S
  | [], _, _, h, _ => by simp only [Reps] at h ⊢; exact h
  | d :: ds, _, _, h, hn => by
    simp only [Reps] at h ⊢
    obtain ⟨v, vr, S1, S2, e1, h1, h2, h3, rfl⟩ := h
    exact ⟨v, vr, S1, S2, e1, rep_off e d h1 fun z => hn (List.mem_append_left _ z), reps_off e ds h2 fun z => hn (List.mem_append_right _ z), h3, rfl⟩
end

mutual
/-- its lists are frozen -/
theorem rep_frz (hF : Same F F') : ∀ (d : D) {v : V} {S : List Addr}, Rep K F H d v S → (∀ a, a ∈ S → F' a = H a) → Rep K F' H d.frz v []
  | .any, _, _, h, _ => by simp only [Rep, D.frz]
  | .non, _, _, h, _ => by simp only [Rep, D.frz] at h ⊢; exact ⟨h.1, trivial⟩
  | .bl _, _, _, h, _ => by simp only [Rep, D.frz] at h ⊢; exact ⟨h.1, trivial⟩
  | .int _, _, _, h, _ => by simp only [Rep, D.frz] at h ⊢; exact ⟨h.1, trivial⟩
  | .str _, _, _, h, _ => by simp only [Rep, D.frz] at h ⊢; exact ⟨h.1, trivial⟩
  | .exc _, _, _, h, _ => by simp only [Rep, D.frz] at h ⊢; obtain ⟨a, e, q, _⟩ := h; exact ⟨a, e, q, trivial⟩
  | .dct .own c ks vs, _, _, h, hn => by
    simp only [Rep, D.frz] at h ⊢
    obtain ⟨a, ps, us, e1, h1, h2, h3, h4, h5, rfl⟩ := h
    exact ⟨a, ps, us, e1, (hn a (by simp)).trans h1, reps_mono hF (.refl H) ks h3 (fun _ z => (List.not_mem_nil z).elim), reps_mono hF (.refl H) vs h4 (fun _ z => (List.not_mem_nil z).elim), h5, trivial⟩
  | .dct .frz c ks vs, _, _, h, hn => by
    simp only [Rep, D.frz] at h ⊢
    obtain ⟨a, ps, us, e1, h1, h3, h4, h5, rfl⟩ := h
    exact ⟨a, ps, us, e1, hF _ _ h1, reps_mono hF (.refl H) ks h3 (fun _ z => (List.not_mem_nil z).elim), reps_mono hF (.refl H) vs h4 (fun _ z => (List.not_mem_nil z).elim), h5, trivial⟩
  | .dct .ro c ks vs, _, _, h, hn => by simp only [Rep] at h
  | .tup ds, _, _, h, hn => by
    simp only [Rep, D.frz] at h ⊢
    obtain ⟨b, vs, e, q, h⟩ := h
    exact ⟨b, vs, e, q, reps_frz hF ds h hn⟩
  | .lst .own ds, _, _, h, hn => by
    simp only [Rep, D.frz] at h ⊢
    obtain ⟨b, vs, S', e, h1, h2, h3, h4, rfl⟩ := h
    exact ⟨b, vs, e, (hn b (List.mem_cons_self)).trans h1, reps_frz hF ds h3 fun a ha => hn a (List.mem_cons_of_mem _ ha), trivial⟩
  | .lst .frz ds, _, _, h, hn => by
    simp only [Rep, D.frz] at h ⊢
    obtain ⟨b, vs, e, q, h, rfl⟩ := h
    exact ⟨b, vs, e, hF _ _ q, reps_frz hF ds h (fun a ha => (List.not_mem_nil ha).elim), trivial⟩
  | .lst .ro ds, _, _, h, hn => by
    simp only [Rep, D.frz] at h ⊢
    obtain ⟨b, vs, e, q, h, rfl⟩ := h
    exact ⟨b, vs, e, hF.seq q, reps_frz hF ds h (fun a ha => (List.not_mem_nil ha).elim), trivial⟩
theorem reps_frz (hF : Same F F') : ∀ (ds : List D) {vs : List V} {S : List Addr}, Reps K F H ds vs S → (∀ a, a ∈ S → F' a = H a) → Reps K F' H (D.frzs ds) vs []
  | [], _, _, h, _ => by simp only [Reps, D.frzs] at h ⊢; exact ⟨h.1, trivial⟩
  | d :: ds, _, _, h, hn => by
    simp only [Reps, D.frzs] at h ⊢
    obtain ⟨v, vr, S1, S2, e, h1, h2, h3, rfl⟩ := h
    exact ⟨v, vr, [], [], e, rep_frz hF d h1 fun a ha => hn a (List.mem_append_left _ ha), reps_frz hF ds h2 fun a ha => hn a (List.mem_append_right _ ha), (fun a ha => (List.not_mem_nil ha).elim), rfl⟩
end

mutual
/-- what is flat owns nothing and hangs on no frozen heap -/
theorem rep_flat : ∀ (d : D) {v : V} {S : List Addr}, d.flat = true → Rep K F H d v S → S = [] ∧ Rep K F' H d v []
  | .any, _, _, p, h => by simp [D.flat] at p
  | .non, _, _, _, h => by simp only [Rep] at h ⊢; exact ⟨h.2, h.1, trivial⟩
  | .bl _, _, _, _, h => by simp only [Rep] at h ⊢; exact ⟨h.2, h.1, trivial⟩
  | .int _, _, _, _, h => by simp only [Rep] at h ⊢; exact ⟨h.2, h.1, trivial⟩
  | .str _, _, _, _, h => by simp only [Rep] at h ⊢; exact ⟨h.2, h.1, trivial⟩
  | .exc _, _, _, _, h => by simp only [Rep] at h ⊢; obtain ⟨a, e, q, r⟩ := h; exact ⟨r, a, e, q, trivial⟩
  | .lst _ _, _, _, p, _ => by simp [D.flat] at p
  | .dct _ _ _ _, _, _, p, _ => by simp [D.flat] at p
  | .tup ds, _, _, p, h => by
    simp only [Rep] at h ⊢
    simp only [D.flat] at p
    obtain ⟨b, vs, e, q, h⟩ := h
    obtain ⟨h1, h2⟩ := reps_flat ds p h
    exact ⟨h1, b, vs, e, q, h2⟩
theorem reps_flat : ∀ (ds : List D) {vs : List V} {S : List Addr}, D.flats ds = true → Reps K F H ds vs S → S = [] ∧ Reps K F' H ds vs []
  | [], _, _, _, h => by simp only [Reps] at h ⊢; exact ⟨h.2, h.1, trivial⟩
  | d :: ds, _, _, p, h => by
    simp only [Reps] at h ⊢
    simp only [D.flats, Bool.and_eq_true] at p
    obtain ⟨v, vr, S1, S2, e, h1, h2, h3, rfl⟩ := h
    obtain ⟨rfl, k1⟩ := rep_flat d p.1 h1
    obtain ⟨rfl, k2⟩ := reps_flat ds p.2 h2
    exact ⟨rfl, v, vr, [], [], e, k1, k2, fun _ a => (List.not_mem_nil a).elim, rfl⟩
end

mutual
theorem key_flat : ∀ (d : D), d.key.isSome = true → d.flat = true
  | .int _, _ => by simp [D.flat]
  | .tup ds, h => by
    simp only [D.flat]
    simp only [D.key] at h
    split at h
    · rename_i l e
      exact keys_flat ds (by rw [e]; rfl)
    · cases h
  | .any, h => by simp [D.key] at h
  | .non, h => by simp [D.key] at h
  | .bl _, h => by simp [D.key] at h
  | .str _, h => by simp [D.key] at h
  | .lst _ _, h => by simp [D.key] at h
  | .exc _, h => by simp [D.key] at h
  | .dct _ _ _ _, h => by simp [D.key] at h
theorem keys_flat : ∀ (ds : List D), (D.keys ds).isSome = true → D.flats ds = true
  | [], _ => by simp [D.flats]
  | d :: ds, h => by
    simp only [D.keys] at h
    simp only [D.flats, Bool.and_eq_true]
    split at h
    · rename_i x xs e1 e2
      exact ⟨key_flat d (by rw [e1]; rfl), keys_flat ds (by rw [e2]; rfl)⟩
    · cases h
end
theorem keyOk_key {c : Bool} {d : D} (h : keyOk c d = true) : d.key.isSome = true := by
  cases d <;> first | (simp [keyOk] at h; done) | skip
  · simp [D.key]
  · unfold keyOk at h
    simp only [Bool.and_eq_true] at h
    obtain ⟨_, h⟩ := h
    split at h
    · rename_i z e; rw [e]; rfl
    · cases h

mutual
/-- what holds no frozen list hangs on no frozen heap -/
theorem rep_pur : ∀ (d : D) {v : V} {S : List Addr}, d.pur = true → Rep K F H d v S → (∀ a, a ∈ S → F' a = none) → Rep K F' H d v S
  | .any, _, _, _, h, _ => by simp only [Rep] at h ⊢; exact h
  | .non, _, _, _, h, _ => by simp only [Rep] at h ⊢; exact h
  | .bl _, _, _, _, h, _ => by simp only [Rep] at h ⊢; exact h
  | .int _, _, _, _, h, _ => by simp only [Rep] at h ⊢; exact h
  | .str _, _, _, _, h, _ => by simp only [Rep] at h ⊢; exact h
  | .exc _, _, _, _, h, _ => by simp only [Rep] at h ⊢; exact h
  | .dct .own c ks vs, _, _, p, h, hn => by
    simp only [Rep] at h ⊢
    obtain ⟨a, ps, us, e1, h1, h2, h3, h4, h5, rfl⟩ := h
    have h5' := h5
    unfold dwf at h5'
    simp only [Bool.and_eq_true, List.all_eq_true] at h5'
    have kf : D.flats ks = true := by
      rw [D.flats_eq]
      exact List.all_eq_true.mpr fun x hx => key_flat x (keyOk_key (h5'.1.1 x hx))
    exact ⟨a, ps, us, e1, h1, hn a (by simp), (reps_flat ks kf h3).2, (reps_flat vs h5'.1.2 h4).2, h5, rfl⟩
  | .dct .frz c ks vs, _, _, p, h, hn => by simp [D.pur] at p
  | .dct .ro c ks vs, _, _, p, h, hn => by simp [D.pur] at p
  | .tup ds, _, _, p, h, hn => by
    simp only [Rep] at h ⊢
    simp only [D.pur] at p
    obtain ⟨b, vs, e, q, h⟩ := h
    exact ⟨b, vs, e, q, reps_pur ds p h hn⟩
  | .lst .own ds, _, _, p, h, hn => by
    simp only [Rep] at h ⊢
    simp only [D.pur, Bool.true_and] at p
    obtain ⟨b, vs, S', e, h1, h2, h3, h4, rfl⟩ := h
    exact ⟨b, vs, S', e, h1, hn b (List.mem_cons_self), reps_pur ds p h3 fun a ha => hn a (List.mem_cons_of_mem _ ha), h4, rfl⟩
  | .lst .frz ds, _, _, p, h, hn => by simp [D.pur] at p
  | .lst .ro ds, _, _, p, h, hn => by simp [D.pur] at p
theorem reps_pur : ∀ (ds : List D) {vs : List V} {S : List Addr}, D.purs ds = true → Reps K F H ds vs S → (∀ a, a ∈ S → F' a = none) → Reps K F' H ds vs S
  | [], _, _, _, h, _ => by simp only [Reps] at h ⊢; exact h
  | d :: ds, _, _, p, h, hn => by
    simp only [Reps] at h ⊢
    simp only [D.purs, Bool.and_eq_true] at p
    obtain ⟨v, vr, S1, S2, e, h1, h2, h3, rfl⟩ := h
    exact ⟨v, vr, S1, S2, e, rep_pur d p.1 h1 fun a ha => hn a (List.mem_append_left _ ha), reps_pur ds p.2 h2 fun a ha => hn a (List.mem_append_right _ ha), h3, rfl⟩
end

mutual
/-- a frozen datum owns nothing -/
theorem rep_nil : ∀ (d : D) {v : V} {S : List Addr}, Rep K F H d.frz v S → S = []
  | .any, _, _, h => by simpa only [Rep, D.frz] using h
  | .non, _, _, h => by simp only [Rep, D.frz] at h; exact h.2
  | .bl _, _, _, h => by simp only [Rep, D.frz] at h; exact h.2
  | .int _, _, _, h => by simp only [Rep, D.frz] at h; exact h.2
  | .str _, _, _, h => by simp only [Rep, D.frz] at h; exact h.2
  | .exc _, _, _, h => by simp only [Rep, D.frz] at h; obtain ⟨_, _, _, r⟩ := h; exact r
  | .dct .own c ks vs, _, _, h => by simp only [Rep, D.frz] at h; obtain ⟨_, _, _, _, _, _, _, _, r⟩ := h; exact r
  | .dct .frz c ks vs, _, _, h => by simp only [Rep, D.frz] at h; obtain ⟨_, _, _, _, _, _, _, _, r⟩ := h; exact r
  | .dct .ro c ks vs, _, _, h => by simp only [Rep, D.frz] at h
  | .tup ds, _, _, h => by
    simp only [Rep, D.frz] at h
    obtain ⟨b, vs, e, q, h⟩ := h
    exact reps_nil ds h
  | .lst .own ds, _, _, h => by
    simp only [Rep, D.frz] at h
    obtain ⟨b, vs, e, q, h, r⟩ := h
    exact r
  | .lst .frz ds, _, _, h => by
    simp only [Rep, D.frz] at h
    obtain ⟨b, vs, e, q, h, r⟩ := h
    exact r
  | .lst .ro ds, _, _, h => by
    simp only [Rep, D.frz] at h
    obtain ⟨b, vs, e, q, h, r⟩ := h
    exact r
theorem reps_nil : ∀ (ds : List D) {vs : List V} {S : List Addr}, Reps K F H (D.frzs ds) vs S → S = []
  | [], _, _, h => by simp only [Reps, D.frzs] at h; exact h.2
  | d :: ds, _, _, h => by
    simp only [Reps, D.frzs] at h
    obtain ⟨v, vr, S1, S2, e, h1, h2, h3, rfl⟩ := h
    rw [rep_nil d h1, reps_nil ds h2]
    rfl
end

theorem reps_len : ∀ {ds : List D} {vs : List V} {S : List Addr}, Reps K F H ds vs S → vs.length = ds.length
  | [], _, _, h => by simp only [Reps] at h; rw [h.1]; rfl
  | d :: ds, _, _, h => by
    simp only [Reps] at h
    obtain ⟨v, vr, S1, S2, rfl, h1, h2, h3, rfl⟩ := h
    simp [reps_len h2]
theorem reps_app : ∀ {ds es : List D} {vs us : List V} {S T : List Addr}, Reps K F H ds vs S → Reps K F H es us T → (∀ a, a ∈ S → a ∉ T) → Reps K F H (ds ++ es) (vs ++ us) (S ++ T)
  | [], es, _, us, _, T, h, k, _ => by
    simp only [Reps] at h
    obtain ⟨rfl, rfl⟩ := h
    exact k
  | d :: ds, es, _, us, _, T, h, k, n => by
    simp only [Reps] at h
    obtain ⟨v, vr, S1, S2, rfl, h1, h2, h3, rfl⟩ := h
    have ih := reps_app h2 k fun a ha => n a (List.mem_append_right _ ha)
    show Reps K F H (d :: (ds ++ es)) (v :: (vr ++ us)) (S1 ++ S2 ++ T)
    simp only [Reps]
    refine ⟨v, vr ++ us, S1, S2 ++ T, rfl, h1, ih, fun a ha hb => ?_, by simp⟩
    rcases List.mem_append.mp hb with hb | hb
    · exact h3 a ha hb
    · exact n a (List.mem_append_left _ ha) hb
theorem reps_split : ∀ {ds es : List D} {ws : List V} {U : List Addr}, Reps K F H (ds ++ es) ws U → ∃ vs us S T, ws = vs ++ us ∧ U = S ++ T ∧ Reps K F H ds vs S ∧ Reps K F H es us T ∧ ∀ a, a ∈ S → a ∉ T
  | [], es, ws, U, h => ⟨[], ws, [], U, rfl, rfl, by simp only [Reps]; exact ⟨trivial, trivial⟩, h, (fun a ha => (List.not_mem_nil ha).elim)⟩
  | d :: ds, es, ws, U, h => by
    have h' : Reps K F H (d :: (ds ++ es)) ws U := h
    simp only [Reps] at h'
    obtain ⟨v, vr, S1, S2, rfl, h1, h2, h3, rfl⟩ := h'
    obtain ⟨vs, us, S, T, rfl, rfl, k1, k2, k3⟩ := reps_split h2
    refine ⟨v :: vs, us, S1 ++ S, T, rfl, by simp, ?_, k2, fun a ha hb => ?_⟩
    · simp only [Reps]
      exact ⟨v, vs, S1, S, rfl, h1, k1, fun a ha hb => h3 a ha (List.mem_append_left _ hb), rfl⟩
    · rcases List.mem_append.mp ha with ha | ha
      · exact h3 a ha (List.mem_append_right _ hb)
      · exact k3 a ha hb
theorem reps_get {ds : List D} {vs : List V} {S : List Addr} (h : Reps K F H ds vs S) {i : Nat} {d : D} (hd : ds[i]? = some d) : ∃ v S', vs[i]? = some v ∧ Rep K F H d v S' ∧ ∀ a, a ∈ S' → a ∈ S := by
  induction ds generalizing vs S i with
  | nil => simp at hd
  | cons x xs ih =>
    simp only [Reps] at h
    obtain ⟨v, vr, S1, S2, rfl, h1, h2, h3, rfl⟩ := h
    cases i with
    | zero =>
      simp at hd
      subst hd
      exact ⟨v, S1, rfl, h1, fun a ha => List.mem_append_left _ ha⟩
    | succ i =>
      obtain ⟨u, S', k1, k2, k3⟩ := ih h2 (i := i) (by simpa using hd)
      exact ⟨u, S', by simpa using k1, k2, fun a ha => List.mem_append_right _ (k3 a ha)⟩
theorem reps_one {d : D} {v : V} {S : List Addr} (h : Rep K F H d v S) : Reps K F H [d] [v] S := by
  simp only [Reps]
  exact ⟨v, [], S, [], rfl, h, ⟨rfl, rfl⟩, (fun a _ hb => nomatch hb), by simp⟩
theorem reps_nil' : Reps K F H [] [] [] := by simp only [Reps]; exact ⟨trivial, trivial⟩
theorem reps_cons {d : D} {v : V} {S : List Addr} {ds : List D} {vs : List V} {T : List Addr} (h : Rep K F H d v S) (k : Reps K F H ds vs T) (n : ∀ a, a ∈ S → a ∉ T) : Reps K F H (d :: ds) (v :: vs) (S ++ T) := by
  simp only [Reps]
  exact ⟨v, vs, S, T, rfl, h, k, n, rfl⟩
theorem reps_uncons {d : D} {ds : List D} {vs : List V} {S : List Addr} (h : Reps K F H (d :: ds) vs S) : ∃ v vr S1 S2, vs = v :: vr ∧ Rep K F H d v S1 ∧ Reps K F H ds vr S2 ∧ (∀ a, a ∈ S1 → a ∉ S2) ∧ S = S1 ++ S2 := by
  simpa only [Reps] using h

/-! ### going on -/
/-- F, H have grown to F', H' -/
structure Ext (F H F' H' : Hp) : Prop where
  f : Same F F'
  h : Same H H'
  in' : Same F' H'
  new : ∀ a, H a ≠ none → F a = none → F' a = none
theorem Ext.refl (h : Same F H) : Ext F H F H := ⟨.refl _, .refl _, h, fun _ _ e => e⟩
theorem Ext.trans {F1 H1 F2 H2 : Hp} (a : Ext F H F1 H1) (b : Ext F1 H1 F2 H2) : Ext F H F2 H2 :=
  ⟨a.f.trans b.f, a.h.trans b.h, b.in', fun c hc hf => b.new c (fun z => hc (a.h.free z)) (a.new c hc hf)⟩
def Fresh (H : Hp) (S : List Addr) : Prop := ∀ a, a ∈ S → H a = none
theorem Fresh.mono (h : Same H H') {S : List Addr} (f : Fresh H' S) : Fresh H S := fun a ha => h.free (f a ha)
theorem Fresh.nil : Fresh H [] := fun _ h => nomatch h
theorem rep_ext (e : Ext F H F' H') {d : D} {v : V} {S : List Addr} (h : Rep K F H d v S) : Rep K F' H' d v S :=
  rep_mono e.f e.h d h fun a ha => by
    obtain ⟨⟨vs, h1⟩, h2⟩ := rep_mem d h a ha
    exact e.new a (by rw [h1]; exact fun z => nomatch z) h2
theorem reps_ext (e : Ext F H F' H') {ds : List D} {vs : List V} {S : List Addr} (h : Reps K F H ds vs S) : Reps K F' H' ds vs S :=
  reps_mono e.f e.h ds h fun a ha => by
    obtain ⟨⟨vs, h1⟩, h2⟩ := reps_mem ds h a ha
    exact e.new a (by rw [h1]; exact fun z => nomatch z) h2
/-- what was there and what is new stand apart -/
theorem fresh_apart {d : D} {v : V} {S T : List Addr} (h : Rep K F H d v S) (f : Fresh H T) : ∀ a, a ∈ S → a ∉ T := fun a ha hb => by
  obtain ⟨⟨vs, h1⟩, _⟩ := rep_mem d h a ha
  rw [f a hb] at h1
  cases h1
theorem freshs_apart {ds : List D} {vs : List V} {S T : List Addr} (h : Reps K F H ds vs S) (f : Fresh H T) : ∀ a, a ∈ S → a ∉ T := fun a ha hb => by
  obtain ⟨⟨vs, h1⟩, _⟩ := reps_mem ds h a ha
  rw [f a hb] at h1
  cases h1

/-- the lists at S are frozen -/
noncomputable def fz (F H : Hp) (S : List Addr) : Hp := fun a => if a ∈ S then H a else F a
theorem fz_at {S : List Addr} {a : Addr} (h : a ∈ S) : fz F H S a = H a := if_pos h
theorem fz_same (h : Same F H) {S : List Addr} (hS : ∀ a, a ∈ S → F a = none) : Same F (fz F H S) := fun a o e => by
  by_cases ha : a ∈ S
  · rw [hS a ha] at e
    cases e
  · exact (if_neg ha).trans e
theorem fz_in (h : Same F H) {S : List Addr} : Same (fz F H S) H := fun a o e => by
  by_cases ha : a ∈ S
  · exact (fz_at ha).symm.trans e
  · exact h a o ((if_neg ha).symm.trans e)
/-- .. and that is a growing from an H0 in which none of them stood -/
theorem fz_ext {F0 H0 : Hp} (e : Ext F0 H0 F H) {S : List Addr} (hS : ∀ a, a ∈ S → F a = none) (f : Fresh H0 S) : Ext F0 H0 (fz F H S) H :=
  ⟨e.f.trans (fz_same e.in' hS), e.h, fz_in e.in', fun a ha hf => by
    have hn : a ∉ S := fun z => ha (f a z)
    exact (if_neg hn).trans (e.new a ha hf)⟩
end
end Mn

/-! MnBd: dicts by their keys and values: what the heap holds, and each operation. -/
namespace Mn
open PySem PySem.Spec L2
open PyProof.Rows hiding St

/-! ### keys -/
mutual
theorem hash0_eq (w : World) : ∀ (d : D) {k : NestedKey}, d.key = some k → k.hash w = hash0 k
  | .int i, k, h => by
    simp only [D.key, Option.some.injEq] at h
    subst h
    simp only [NestedKey.hash, hash0]
  | .tup ds, k, h => by
    simp only [D.key] at h
    split at h
    · rename_i l e
      cases h
      simp only [NestedKey.hash, hash0]
      rw [hashes0_eq w ds e]
    · cases h
  | .any, _, h => by simp [D.key] at h
  | .non, _, h => by simp [D.key] at h
  | .bl _, _, h => by simp [D.key] at h
  | .str _, _, h => by simp [D.key] at h
  | .lst _ _, _, h => by simp [D.key] at h
  | .exc _, _, h => by simp [D.key] at h
  | .dct _ _ _ _, _, h => by simp [D.key] at h
theorem hashes0_eq (w : World) : ∀ (ds : List D) {ks : List NestedKey}, D.keys ds = some ks → NestedKey.hashes w ks = hashes0 ks
  | [], ks, h => by
    simp only [D.keys, Option.some.injEq] at h
    subst h
    simp only [NestedKey.hashes, hashes0]
  | d :: ds, ks, h => by
    simp only [D.keys] at h
    split at h
    · rename_i x xs e1 e2
      cases h
      simp only [NestedKey.hashes, hashes0]
      rw [hash0_eq w d e1, hashes0_eq w ds e2]
    · cases h
end
section
variable {P : Program} {w : World} {K : PySem.W.Frag} {F H : Hp} {h : Heap}
mutual
theorem nested_is (ok : HOk P w H h) : ∀ (d : D) {k : NestedKey} {v : V} {S : List Addr} {u : Value}, d.key = some k → Rep K F H d v S → RelV v u → NestedIs h k u
  | .int i, k, v, S, u, e, r, rv => by
    simp only [D.key, Option.some.injEq] at e
    subst e
    simp only [Rep] at r
    obtain ⟨rfl, _⟩ := r
    obtain ⟨t, rfl⟩ := rv
    exact .int i t
  | .tup ds, k, v, S, u, e, r, rv => by
    simp only [D.key] at e
    split at e
    · rename_i l el
      cases e
      simp only [Rep] at r
      obtain ⟨a, vs, rfl, ha, rs⟩ := r
      cases rv
      obtain ⟨_, its, rvs, o, ho, hc, n, hd⟩ := ok a _ ha
      exact .tup ho hc hd (by simpa using nested_all ok ds el rs rvs)
    · cases e
  | .any, _, _, _, _, h, _, _ => by simp [D.key] at h
  | .non, _, _, _, _, h, _, _ => by simp [D.key] at h
  | .bl _, _, _, _, _, h, _, _ => by simp [D.key] at h
  | .str _, _, _, _, _, h, _, _ => by simp [D.key] at h
  | .lst _ _, _, _, _, _, h, _, _ => by simp [D.key] at h
  | .exc _, _, _, _, _, h, _, _ => by simp [D.key] at h
  | .dct _ _ _ _, _, _, _, _, h, _, _ => by simp [D.key] at h
theorem nested_all (ok : HOk P w H h) : ∀ (ds : List D) {ks : List NestedKey} {vs : List V} {S : List Addr} {us : List Value}, D.keys ds = some ks → Reps K F H ds vs S → Vals vs us → NestedAll h ks us
  | [], ks, vs, S, us, e, r, rv => by
    simp only [D.keys, Option.some.injEq] at e
    subst e
    simp only [Reps] at r
    obtain ⟨rfl, _⟩ := r
    cases rv
    exact .nil
  | d :: ds, ks, vs, S, us, e, r, rv => by
    simp only [D.keys] at e
    split at e
    · rename_i x xs e1 e2
      cases e
      obtain ⟨v, vr, S1, S2, rfl, h1, h2, _, _⟩ := reps_uncons r
      cases rv with
      | cons r1 r2 => exact .cons (nested_is ok d e1 h1 r1) (nested_all ok ds e2 h2 r2)
    · cases e
end
end

/-! ### tables -/
theorem keyOk_int {d : D} (h : keyOk true d = true) : ∃ i, d = .int i := by
  cases d <;> first | exact ⟨_, rfl⟩ | (simp [keyOk] at h)
theorem keyOk_tup {d : D} (h : keyOk false d = true) : ∃ ds z, d = .tup ds ∧ d.key = some z ∧ z.depth ≤ 8 := by
  cases d <;> first | (simp [keyOk] at h; done) | skip
  rename_i ds
  unfold keyOk at h
  simp only [Bool.and_eq_true] at h
  obtain ⟨_, h⟩ := h
  split at h
  · rename_i z e
    exact ⟨ds, z, rfl, e, of_decide_eq_true h⟩
  · cases h
theorem dwf_of {c : Bool} {ks vs : List D} (h : dwf c ks vs = true) : (∀ k, k ∈ ks → keyOk c k = true) ∧ D.flats vs = true ∧ ks.length = vs.length := by
  unfold dwf at h
  simp only [Bool.and_eq_true, List.all_eq_true, decide_eq_true_eq] at h
  exact ⟨h.1.1, h.1.2, h.2⟩
theorem dwf_mk {c : Bool} {ks vs : List D} (h1 : ∀ k, k ∈ ks → keyOk c k = true) (h2 : D.flats vs = true) (h3 : ks.length = vs.length) : dwf c ks vs = true := by
  unfold dwf
  simp only [Bool.and_eq_true, List.all_eq_true, decide_eq_true_eq]
  exact ⟨⟨h1, h2⟩, h3⟩

section
variable {K : PySem.W.Frag} {F H : Hp}
theorem kvI_find : ∀ {ks vs : List D} {us : List V} {i : Int}, (∀ k, k ∈ ks → keyOk true k = true) → Reps K F H vs us [] → ks.length = vs.length →
    (∀ d, dfind (some (.num i)) ks vs = some d → ∃ u, valV (kvI ks us) (.inl i) = some u ∧ Rep K F H d u []) ∧ (dfind (some (.num i)) ks vs = none → valV (kvI ks us) (.inl i) = none)
  | [], vs, us, i, _, _, _ => ⟨fun d h => by simp [dfind] at h, fun _ => by simp [kvI, valV]⟩
  | k :: ks, [], us, i, _, _, hl => by simp at hl
  | k :: ks, v :: vs, us, i, hk, r, hl => by
    obtain ⟨j, rfl⟩ := keyOk_int (hk k List.mem_cons_self)
    obtain ⟨u, ur, S1, S2, rfl, h1, h2, _, hS⟩ := reps_uncons r
    obtain ⟨rfl, rfl⟩ := List.append_eq_nil_iff.mp hS.symm
    have ih := kvI_find (i := i) (fun k hk' => hk k (List.mem_cons_of_mem _ hk')) h2 (by simpa using hl)
    have ek : ((D.int j).key = some (NestedKey.num i)) ↔ j = i := by simp [D.key]
    simp only [dfind, kvI, ek]
    by_cases e : j = i
    · subst e
      rw [if_pos rfl, valV_pos (p := (Sum.inl j, u)) rfl]
      exact ⟨fun d h => by cases h; exact ⟨u, rfl, h1⟩, fun h => by cases h⟩
    · rw [if_neg e, valV_neg (p := (Sum.inl j, u)) (fun z => e (Sum.inl.inj z))]
      exact ih
theorem kvI_any {ks vs : List D} {us : List V} {i : Int} (hk : ∀ k, k ∈ ks → keyOk true k = true) (r : Reps K F H vs us []) (hl : ks.length = vs.length) : (valV (kvI ks us) (.inl i)).isSome = (dfind (some (.num i)) ks vs).isSome := by
  obtain ⟨h1, h2⟩ := kvI_find (i := i) hk r hl
  cases e : dfind (some (NestedKey.num i)) ks vs with
  | none => rw [h2 e]; rfl
  | some d => obtain ⟨u, hu, _⟩ := h1 d e; rw [hu]; rfl
theorem kvI_app : ∀ {ks : List D} {us : List V} {i : Int} {u : V}, (∀ k, k ∈ ks → keyOk true k = true) → us.length = ks.length → kvI (ks ++ [.int i]) (us ++ [u]) = kvI ks us ++ [(.inl i, u)]
  | [], us, i, u, _, hl => by
    cases us with
    | nil => rfl
    | cons => simp at hl
  | k :: ks, us, i, u, hk, hl => by
    obtain ⟨j, rfl⟩ := keyOk_int (hk k List.mem_cons_self)
    cases us with
    | nil => simp at hl
    | cons v us =>
      show (Sum.inl j, v) :: kvI (ks ++ [.int i]) (us ++ [u]) = _
      rw [kvI_app (fun k hk' => hk k (List.mem_cons_of_mem _ hk')) (by simpa using hl)]
      rfl
def vrepl (k : Option NestedKey) (u : V) : List D → List V → List V
  | x :: ks, y :: us => (if x.key = k then u else y) :: vrepl k u ks us
  | _, us => us
theorem kvI_repl : ∀ {ks : List D} {us : List V} {i : Int} {u : V}, (∀ k, k ∈ ks → keyOk true k = true) → us.length = ks.length → kvI ks (vrepl (some (.num i)) u ks us) = (kvI ks us).map fun kv => if kv.1 = Sum.inl i then (kv.1, u) else kv
  | [], us, i, u, _, hl => rfl
  | k :: ks, us, i, u, hk, hl => by
    obtain ⟨j, rfl⟩ := keyOk_int (hk k List.mem_cons_self)
    cases us with
    | nil => simp at hl
    | cons v us =>
      have ek : ((D.int j).key = some (NestedKey.num i)) ↔ j = i := by simp [D.key]
      simp only [vrepl, kvI, List.map_cons, ek]
      rw [kvI_repl (fun k hk' => hk k (List.mem_cons_of_mem _ hk')) (by simpa using hl)]
      by_cases e : j = i
      · subst e; simp
      · simp [e]
theorem kvI_len : ∀ {ks : List D} {us : List V}, (∀ k, k ∈ ks → keyOk true k = true) → us.length = ks.length → (kvI ks us).length = ks.length
  | [], us, _, hl => by simp [kvI]
  | k :: ks, us, hk, hl => by
    obtain ⟨j, rfl⟩ := keyOk_int (hk k List.mem_cons_self)
    cases us with
    | nil => simp at hl
    | cons v us => simp [kvI, kvI_len (fun k hk' => hk k (List.mem_cons_of_mem _ hk')) (show us.length = ks.length by simpa using hl)]
theorem vrepl_len {k : Option NestedKey} {u : V} : ∀ {ks : List D} {us : List V}, (vrepl k u ks us).length = us.length
  | [], us => rfl
  | x :: ks, [] => rfl
  | x :: ks, y :: us => by simp [vrepl, vrepl_len]
theorem drepl_len {k : Option NestedKey} {u : D} : ∀ {ks : List D} {us : List D}, (drepl k u ks us).length = us.length
  | [], us => rfl
  | x :: ks, [] => rfl
  | x :: ks, y :: us => by simp [drepl, drepl_len]
theorem drepl_reps {k : Option NestedKey} {d : D} {u : V} (r : Rep K F H d u []) : ∀ {ks vs : List D} {us : List V}, Reps K F H vs us [] → Reps K F H (drepl k d ks vs) (vrepl k u ks us) []
  | [], vs, us, h => h
  | x :: ks, [], us, h => by
    simp only [Reps] at h
    obtain ⟨rfl, _⟩ := h
    exact reps_nil'
  | x :: ks, y :: vs, us, h => by
    obtain ⟨v, vr, S1, S2, rfl, h1, h2, _, hS⟩ := reps_uncons h
    obtain ⟨rfl, rfl⟩ := List.append_eq_nil_iff.mp hS.symm
    have ih := drepl_reps (k := k) r (ks := ks) h2
    show Reps K F H ((if x.key = k then d else y) :: drepl k d ks vs) ((if x.key = k then u else v) :: vrepl k u ks vr) []
    split
    · exact reps_cons (S := []) (T := []) r ih fun a ha => (List.not_mem_nil ha).elim
    · exact reps_cons (S := []) (T := []) h1 ih fun a ha => (List.not_mem_nil ha).elim
theorem drepl_flats {k : Option NestedKey} {d : D} (r : d.flat = true) : ∀ {ks vs : List D}, D.flats vs = true → D.flats (drepl k d ks vs) = true
  | [], vs, h => h
  | x :: ks, [], h => h
  | x :: ks, y :: vs, h => by
    simp only [D.flats, Bool.and_eq_true] at h
    simp only [drepl, D.flats, Bool.and_eq_true]
    refine ⟨?_, drepl_flats r h.2⟩
    split
    · exact r
    · exact h.1
theorem reps_snoc {ds : List D} {vs : List V} {d : D} {v : V} (h : Reps K F H ds vs []) (r : Rep K F H d v []) : Reps K F H (ds ++ [d]) (vs ++ [v]) [] := by
  simpa using reps_app h (reps_one r) fun a ha => (List.not_mem_nil ha).elim
theorem flats_snoc {ds : List D} {d : D} (h : D.flats ds = true) (r : d.flat = true) : D.flats (ds ++ [d]) = true := by
  rw [D.flats_eq] at h ⊢
  rw [List.all_append, h]
  simp [r]

/-! ### tuple keys -/
theorem kvN_len : ∀ {ks : List D} {ps us : List V}, ps.length = ks.length → us.length = ks.length → (kvN ks ps us).length = ks.length
  | [], _, _, _, _ => by simp [kvN]
  | k :: ks, [], _, h, _ => by simp at h
  | k :: ks, p :: ps, [], _, h => by simp at h
  | k :: ks, p :: ps, u :: us, h1, h2 => by simp [kvN, kvN_len (show ps.length = ks.length by simpa using h1) (show us.length = ks.length by simpa using h2)]
theorem keyN_of {d : D} {z : NestedKey} (h : d.key = some z) : keyN d = z := by unfold keyN; rw [h]; rfl
theorem NdR.find {z : NestedKey} : ∀ {ks vs : List D} {ps us : List V} {xs : List (NestedKey × Addr × Value)}, (∀ k, k ∈ ks → keyOk false k = true) → Reps K F H vs us [] → ks.length = vs.length → ps.length = ks.length → NdR (kvN ks ps us) xs →
    (∀ d, dfind (some z) ks vs = some d → ∃ u p, atKey xs z = some p ∧ RelV u p.2 ∧ Rep K F H d u []) ∧ (dfind (some z) ks vs = none → atKey xs z = none)
  | [], vs, ps, us, xs, _, _, _, _, r => by
    have : xs = [] := by
      simp only [kvN] at r
      cases r
      rfl
    subst this
    exact ⟨fun d h => by simp [dfind] at h, fun _ => rfl⟩
  | k :: ks, [], ps, us, xs, _, _, hl, _, r => by simp at hl
  | k :: ks, v :: vs, ps, us, xs, hk, r, hl, hp, hr => by
    obtain ⟨ds, y, rfl, ey, _⟩ := keyOk_tup (hk k List.mem_cons_self)
    obtain ⟨u, ur, S1, S2, rfl, h1, h2, _, hS⟩ := reps_uncons r
    obtain ⟨rfl, rfl⟩ := List.append_eq_nil_iff.mp hS.symm
    cases ps with
    | nil => simp at hp
    | cons p ps =>
      simp only [kvN] at hr
      cases hr with
      | @cons a b as bs hb hr' =>
        obtain ⟨b1, b2, b3⟩ := b
        obtain ⟨q1, q2, q3⟩ := hb
        simp only [keyN_of ey] at q1 q2 q3
        have ih := NdR.find (z := z) (fun k hk' => hk k (List.mem_cons_of_mem _ hk')) h2 (by simpa using hl) (by simpa using hp) hr'
        simp only [dfind, ey, Option.some.injEq]
        by_cases e : y = z
        · have e' : b1 = z := q1.symm.trans e
          rw [if_pos e]
          have ea : atKey ((b1, b2, b3) :: bs) z = some (b2, b3) := by simp [atKey, List.find?_cons, e']
          exact ⟨fun d h => by cases h; exact ⟨u, _, ea, q3, h1⟩, fun h => by cases h⟩
        · have e' : ¬ b1 = z := fun x => e (q1.trans x)
          rw [if_neg e]
          have ea : atKey ((b1, b2, b3) :: bs) z = atKey bs z := by simp [atKey, List.find?_cons, e']
          rw [ea]
          exact ih
theorem NdR.repl {z : NestedKey} {u : V} {uu : Value} (ru : RelV u uu) : ∀ {ks : List D} {ps us : List V} {xs : List (NestedKey × Addr × Value)}, (∀ k, k ∈ ks → keyOk false k = true) → ps.length = ks.length → us.length = ks.length → NdR (kvN ks ps us) xs →
    NdR (kvN ks ps (vrepl (some z) u ks us)) (xs.map (putAt z uu))
  | [], ps, us, xs, _, _, _, r => by
    simp only [kvN] at r ⊢
    cases r
    exact .nil
  | k :: ks, ps, us, xs, hk, hp, hu, r => by
    obtain ⟨ds, y, rfl, ey, _⟩ := keyOk_tup (hk k List.mem_cons_self)
    cases ps with
    | nil => simp at hp
    | cons p ps =>
      cases us with
      | nil => simp at hu
      | cons v us =>
        simp only [kvN] at r
        cases r with
        | @cons a b as bs hb hr' =>
          obtain ⟨b1, b2, b3⟩ := b
          obtain ⟨q1, q2, q3⟩ := hb
          simp only [keyN_of ey] at q1 q2 q3
          have ih := NdR.repl (z := z) ru (fun k hk' => hk k (List.mem_cons_of_mem _ hk')) (by simpa using hp) (by simpa using hu) hr'
          simp only [vrepl, kvN, List.map_cons, ey, Option.some.injEq]
          refine .cons ?_ ih
          simp only [keyN_of ey]
          by_cases e : y = z
          · have e' : b1 = z := q1.symm.trans e
            rw [if_pos e]
            simp only [putAt, if_pos e']
            exact ⟨q1, q2, ru⟩
          · have e' : ¬ b1 = z := fun x => e (q1.trans x)
            rw [if_neg e]
            simp only [putAt, if_neg e']
            exact ⟨q1, q2, q3⟩
theorem kvN_app : ∀ {ks : List D} {ps us : List V} {k : D} {p u : V}, ps.length = ks.length → us.length = ks.length → kvN (ks ++ [k]) (ps ++ [p]) (us ++ [u]) = kvN ks ps us ++ [(keyN k, refA p, u)]
  | [], ps, us, k, p, u, h1, h2 => by
    cases ps <;> cases us <;> first | rfl | simp at h1 h2
  | x :: ks, ps, us, k, p, u, h1, h2 => by
    cases ps with
    | nil => simp at h1
    | cons p' ps =>
      cases us with
      | nil => simp at h2
      | cons u' us =>
        show (keyN x, refA p', u') :: kvN (ks ++ [k]) (ps ++ [p]) (us ++ [u]) = _
        rw [kvN_app (by simpa using h1) (by simpa using h2)]
        rfl
end

/-! ### the dict at a -/
def Dc (K : PySem.W.Frag) (F H : Hp) (a : Addr) (c : Bool) (ks vs : List D) : Prop := ∃ ps us, H a = some (dO c a ks ps us) ∧ Reps K F H ks ps [] ∧ Reps K F H vs us [] ∧ dwf c ks vs = true
section
variable {K : PySem.W.Frag} {F H : Hp}
theorem rep_dct {k : LK} {c : Bool} {ks vs : List D} {v : V} {S : List Addr} (i : Same F H) (h : Rep K F H (.dct k c ks vs) v S) : ∃ a, v = .ref a ∧ Dc K F H a c ks vs := by
  cases k with
  | own =>
    simp only [Rep] at h
    obtain ⟨a, ps, us, rfl, h1, h2, h3, h4, h5, rfl⟩ := h
    exact ⟨a, rfl, ps, us, h1, h3, h4, h5⟩
  | frz =>
    simp only [Rep] at h
    obtain ⟨a, ps, us, rfl, h1, h3, h4, h5, rfl⟩ := h
    exact ⟨a, rfl, ps, us, i _ _ h1, h3, h4, h5⟩
  | ro => simp only [Rep] at h
theorem nd_is {P : Program} {w : World} {h : Heap} (ok : HOk P w H h) : ∀ {ks : List D} {ps us : List V} {xs : List (NestedKey × Addr × Value)}, (∀ k, k ∈ ks → keyOk false k = true) → Reps K F H ks ps [] → us.length = ks.length → NdR (kvN ks ps us) xs →
    ∀ x, x ∈ xs → (nestedKind P w).is h x.1 x.2.1 ∧ hash0 x.1 = x.1.hash w
  | [], ps, us, xs, _, _, _, r => by
    simp only [kvN] at r
    cases r
    exact fun x hx => (List.not_mem_nil hx).elim
  | k :: ks, ps, us, xs, hk, rk, hl, r => by
    obtain ⟨ds, y, rfl, ey, hd⟩ := keyOk_tup (hk k List.mem_cons_self)
    obtain ⟨p, pr, S1, S2, rfl, h1, h2, _, hS⟩ := reps_uncons rk
    obtain ⟨rfl, rfl⟩ := List.append_eq_nil_iff.mp hS.symm
    cases us with
    | nil => simp at hl
    | cons v us =>
      simp only [kvN] at r
      cases r with
      | @cons a b as bs hb hr' =>
        obtain ⟨b1, b2, b3⟩ := b
        obtain ⟨q1, q2, q3⟩ := hb
        simp only [keyN_of ey] at q1 q2 q3
        subst q1 q2
        intro x hx
        rcases List.mem_cons.mp hx with rfl | hx
        · obtain ⟨t, vs, rfl, _⟩ := (show ∃ a vs, p = .ref a ∧ H a = some (.tup vs) ∧ Reps K F H ds vs [] by simpa only [Rep] using h1)
          exact ⟨⟨nested_is ok _ ey h1 rfl, hd⟩, (hash0_eq w _ ey).symm⟩
        · exact nd_is ok (fun k hk' => hk k (List.mem_cons_of_mem _ hk')) h2 (by simpa using hl) hr' x hx
/-- as the library has it -/
theorem nd_of {P : Program} {w : World} {h : Heap} {a : Addr} {ks : List D} {ps us : List V} (ok : HOk P w H h) (e : H a = some (NdO a (kvN ks ps us))) (hk : ∀ k, k ∈ ks → keyOk false k = true) (rk : Reps K F H ks ps []) (hl : us.length = ks.length) :
    (kvN ks ps us).length ≤ sizeLine ∧ (a == sysModules) = false ∧ ∃ xs, NdR (kvN ks ps us) xs ∧ h.DictOfH (nestedKind P w) a xs := by
  obtain ⟨⟨z, y, xs, r, o, ds, ep, h1, h2, h3, h4, h5⟩, _, _⟩ := ok a _ e
  have all := nd_is ok hk rk hl r
  refine ⟨z, y, xs, r, o, ds, ep, h1, h2, h3, ?_, fun x hx => (all x hx).1, h5⟩
  rw [h4]
  refine List.map_congr_left fun x hx => ?_
  show (⟨hash0 x.1, .ref x.2.1, x.2.2⟩ : DictEntry) = ⟨x.1.hash w, .ref x.2.1, x.2.2⟩
  rw [(all x hx).2]
theorem nd_new {P : Program} {w : World} {h : Heap} {H' : Hp} {a : Addr} {es : NEs} {xs : List (NestedKey × Addr × Value)} (z : es.length ≤ sizeLine) (hd : (a == sysModules) = false) (r : NdR es xs) (all : ∀ x, x ∈ xs → hash0 x.1 = x.1.hash w) (d : h.DictOfH (nestedKind P w) a xs) :
    ObjOk P w H' h a (NdO a es) := by
  obtain ⟨o, ds, ep, h1, h2, h3, h4, h5, h6⟩ := d
  refine ⟨⟨z, hd, xs, r, o, ds, ep, h1, h2, h3, ?_, h6⟩, ⟨o, h1⟩, fun g1 g2 ⟨z, hd, xs, r, o, ds, ep, h1, h2⟩ k => ⟨z, hd, xs, r, o, ds, ep, k o h1, h2⟩⟩
  rw [h4]
  refine List.map_congr_left fun x hx => ?_
  show (⟨x.1.hash w, .ref x.2.1, x.2.2⟩ : DictEntry) = ⟨hash0 x.1, .ref x.2.1, x.2.2⟩
  rw [all x hx]
end

section
variable {X : Cx} {pins : List (Addr × Obj)} {σ : St} {F H : Hp} {s : Shared} {A : Around} {E : Value → Shared → Prop} {a : Addr} {c : Bool} {ks vs : List D} {kd : D} {y : V} {u : Value} {S : List Addr}
theorem key_v {i : Int} (h : Rep X.K F H (.int i) y S) : y = kV (.inl i) := by
  simp only [Rep] at h
  exact h.1
/-- d[y] and y in d and y not in d -/
theorem dc_get {Q : Value → Shared → Prop} {d : D} (hu : A.units + 66 < cLine) (I : Inv X pins σ H s) (dc : Dc X.K F H a c ks vs) (hk : keyOk c kd = true) (rk : Rep X.K F H kd y S) (ry : RelV y u) (f : dfind kd.key ks vs = some d)
    (h : ∀ v w' s', Inv X pins σ H s' → RelV v w' → Rep X.K F H d v [] → Q w' s') : s.TypeIs (.ref a) "dict" ∧ wpAny (model X.prog X.w) A (getItem (.ref a) u) Q E s := by
  obtain ⟨ps, us, e, r1, r2, wf⟩ := dc
  obtain ⟨w1, w2, w3⟩ := dwf_of wf
  cases c with
  | true =>
    obtain ⟨i, rfl⟩ := keyOk_int hk
    have ey := key_v rk
    obtain ⟨v, hv, rv⟩ := (kvI_find (i := i) w1 r2 w3).1 d f
    have g : DGet H a y (some v) := by
      rw [ey, ← hv]
      exact DGet.k (show H a = some (.dK (kvI ks us)) from e)
    exact ⟨dict_typeIs I g, d_getItem (by omega) I g ry fun w' s' I' r' => h v w' s' I' r' rv⟩
  | false =>
    obtain ⟨ds, z, rfl, ez, hz⟩ := keyOk_tup hk
    have hlu : us.length = ks.length := by rw [reps_len r2, w3]
    obtain ⟨q1, q2, xs, q3, q4⟩ := nd_of (P := X.prog) (w := X.w) I.hok (show H a = some (NdO a (kvN ks ps us)) from e) w1 r1 hlu
    rw [ez] at f
    obtain ⟨v, p, hp, rv, rd⟩ := (NdR.find (z := z) w1 r2 w3 (reps_len r1) q3).1 d f
    obtain ⟨t, ws, rfl, ht, _⟩ := (show ∃ a vs, y = .ref a ∧ H a = some (.tup vs) ∧ Reps X.K F H ds vs S by simpa only [Rep] using rk)
    cases ry
    refine ⟨q4.typeIs, wpAny_getItem_heap (knd := nestedKind X.prog X.w) (k := z) (by show A.units + 1 + 8 < cLine; omega) ⟨nested_is I.hok _ ez rk rfl, hz⟩ q4 hp (h v _ _ (I.tok _) rv rd)⟩
theorem dc_in {Q : Value → Shared → Prop} (hu : A.units + 66 < cLine) (I : Inv X pins σ H s) (dc : Dc X.K F H a c ks vs) (hk : keyOk c kd = true) (rk : Rep X.K F H kd y S) (ry : RelV y u)
    (h : ∀ s', Inv X pins σ H s' → Q (.bool (dfind kd.key ks vs).isSome) s') : wpAny (model X.prog X.w) A (compareOp .In u (.ref a)) Q E s := by
  obtain ⟨ps, us, e, r1, r2, wf⟩ := dc
  obtain ⟨w1, w2, w3⟩ := dwf_of wf
  cases c with
  | true =>
    obtain ⟨i, rfl⟩ := keyOk_int hk
    have ey := key_v rk
    have g : DGet H a y (valV (kvI ks us) (.inl i)) := by
      rw [ey]
      exact DGet.k (show H a = some (.dK (kvI ks us)) from e)
    refine d_in (by omega) I g ry fun s' I' => ?_
    rw [kvI_any w1 r2 w3]
    exact h s' I'
  | false =>
    obtain ⟨ds, z, rfl, ez, hz⟩ := keyOk_tup hk
    have hlu : us.length = ks.length := by rw [reps_len r2, w3]
    obtain ⟨q1, q2, xs, q3, q4⟩ := nd_of (P := X.prog) (w := X.w) I.hok (show H a = some (NdO a (kvN ks ps us)) from e) w1 r1 hlu
    have fd := NdR.find (z := z) w1 r2 w3 (reps_len r1) q3
    obtain ⟨t, ws, rfl, ht, _⟩ := (show ∃ a vs, y = .ref a ∧ H a = some (.tup vs) ∧ Reps X.K F H ds vs S by simpa only [Rep] using rk)
    cases ry
    have eq : (atKey xs z).isSome = (dfind (D.tup ds).key ks vs).isSome := by
      rw [ez]
      cases e : dfind (some z) ks vs with
      | none => rw [fd.2 e]; rfl
      | some d => obtain ⟨v, p, hp, _⟩ := fd.1 d e; rw [hp]; rfl
    refine wpAny_in_heap (knd := nestedKind X.prog X.w) (k := z) (by show A.units + 1 + 8 < cLine; omega) ⟨nested_is I.hok _ ez rk rfl, hz⟩ q2 q4 ?_
    rw [eq]
    exact h _ (I.tok _)
theorem dc_notin {Q : Value → Shared → Prop} (hu : A.units + 66 < cLine) (I : Inv X pins σ H s) (dc : Dc X.K F H a c ks vs) (hk : keyOk c kd = true) (rk : Rep X.K F H kd y S) (ry : RelV y u)
    (h : ∀ s', Inv X pins σ H s' → Q (.bool (!(dfind kd.key ks vs).isSome)) s') : wpAny (model X.prog X.w) A (compareOp .NotIn u (.ref a)) Q E s := by
  obtain ⟨ps, us, e, r1, r2, wf⟩ := dc
  obtain ⟨w1, w2, w3⟩ := dwf_of wf
  cases c with
  | true =>
    obtain ⟨i, rfl⟩ := keyOk_int hk
    have ey := key_v rk
    have g : DGet H a y (valV (kvI ks us) (.inl i)) := by
      rw [ey]
      exact DGet.k (show H a = some (.dK (kvI ks us)) from e)
    refine d_notIn (by omega) I g ry fun s' I' => ?_
    rw [kvI_any w1 r2 w3]
    exact h s' I'
  | false =>
    obtain ⟨ds, z, rfl, ez, hz⟩ := keyOk_tup hk
    have hlu : us.length = ks.length := by rw [reps_len r2, w3]
    obtain ⟨q1, q2, xs, q3, q4⟩ := nd_of (P := X.prog) (w := X.w) I.hok (show H a = some (NdO a (kvN ks ps us)) from e) w1 r1 hlu
    have fd := NdR.find (z := z) w1 r2 w3 (reps_len r1) q3
    obtain ⟨t, ws, rfl, ht, _⟩ := (show ∃ a vs, y = .ref a ∧ H a = some (.tup vs) ∧ Reps X.K F H ds vs S by simpa only [Rep] using rk)
    cases ry
    have eq : (atKey xs z).isSome = (dfind (D.tup ds).key ks vs).isSome := by
      rw [ez]
      cases e : dfind (some z) ks vs with
      | none => rw [fd.2 e]; rfl
      | some d => obtain ⟨v, p, hp, _⟩ := fd.1 d e; rw [hp]; rfl
    refine wpAny_notIn_heap (knd := nestedKind X.prog X.w) (k := z) (by show A.units + 1 + 8 < cLine; omega) ⟨nested_is I.hok _ ez rk rfl, hz⟩ q2 q4 ?_
    rw [eq]
    exact h _ (I.tok _)
/-- d[y] = v -/
theorem dc_put {Q : Unit → Shared → Prop} {vd : D} {v : V} {r : Value} (hu : A.units + 66 < cLine) (I : Inv X pins σ H s) {ps us : List V} (e : H a = some (dO c a ks ps us)) (r1 : Reps X.K F H ks ps []) (r2 : Reps X.K F H vs us []) (wf : dwf c ks vs = true)
    (hz : ks.length < sizeLine) (hk : keyOk c kd = true) (rk : Rep X.K F H kd y []) (ry : RelV y u) (rvd : Rep X.K F H vd v []) (rv : RelV v r) (hf : vd.flat = true)
    (h : ∀ ps' us' s', Inv X pins σ (upd H a (dO c a (dput ks vs kd vd).1 ps' us')) s' → Reps X.K F H (dput ks vs kd vd).1 ps' [] → Reps X.K F H (dput ks vs kd vd).2 us' [] → dwf c (dput ks vs kd vd).1 (dput ks vs kd vd).2 = true → Q () s') :
    wpAny (model X.prog X.w) A (setItem (.ref a) u r) Q E s := by
  obtain ⟨w1, w2, w3⟩ := dwf_of wf
  have hlu : us.length = ks.length := by rw [reps_len r2, w3]
  have hlp := reps_len r1
  -- the two cases of the table
  have key : ∃ ps' us', Reps X.K F H (dput ks vs kd vd).1 ps' [] ∧ Reps X.K F H (dput ks vs kd vd).2 us' [] ∧ dwf c (dput ks vs kd vd).1 (dput ks vs kd vd).2 = true ∧
      (((dfind kd.key ks vs).isSome = true ∧ (dput ks vs kd vd).1 = ks ∧ ps' = ps ∧ us' = vrepl kd.key v ks us) ∨ ((dfind kd.key ks vs).isSome = false ∧ (dput ks vs kd vd).1 = ks ++ [kd] ∧ ps' = ps ++ [y] ∧ us' = us ++ [v])) := by
    unfold dput
    by_cases q : (dfind kd.key ks vs).isSome = true
    · rw [if_pos q]
      exact ⟨ps, _, r1, drepl_reps rvd r2, dwf_mk w1 (drepl_flats hf w2) (by rw [drepl_len]; exact w3), .inl ⟨q, rfl, rfl, rfl⟩⟩
    · rw [if_neg q]
      refine ⟨_, _, reps_snoc r1 rk, reps_snoc r2 rvd, dwf_mk (fun k hk' => ?_) (flats_snoc w2 hf) (by simp [w3]), .inr ⟨by simpa using q, rfl, rfl, rfl⟩⟩
      rcases List.mem_append.mp hk' with z | z
      · exact w1 k z
      · simp only [List.mem_singleton] at z; subst z; exact hk
  obtain ⟨ps', us', k1, k2, k3, k4⟩ := key
  refine (?_ : ∀ (_ : ∀ s', Inv X pins σ (upd H a (dO c a (dput ks vs kd vd).1 ps' us')) s' → Q () s'), wpAny (model X.prog X.w) A (setItem (.ref a) u r) Q E s) fun s' I' => h ps' us' s' I' k1 k2 k3
  intro h
  cases c with
  | true =>
    obtain ⟨i, rfl⟩ := keyOk_int hk
    have ey := key_v rk
    have e' : H a = some (.dK (kvI ks us)) := e
    have g : DPut H a y v (upd H a (.dK (putK (kvI ks us) (.inl i) v))) := by
      rw [ey]
      exact DPut.k e' (by rw [kvI_len w1 hlu]; exact hz)
    refine d_setItem (by omega) I g ry rv fun s' I' => h s' ?_
    have same : putK (kvI ks us) (.inl i) v = kvI (dput ks vs (.int i) vd).1 us' := by
      unfold putK
      rw [valV_any, kvI_any w1 r2 w3]
      have ei : (D.int i).key = some (NestedKey.num i) := by simp [D.key]
      rw [ei] at k4
      rcases k4 with ⟨q, q1, q2, q3⟩ | ⟨q, q1, q2, q3⟩
      · rw [if_pos q, q1, q3, kvI_repl w1 hlu]
      · rw [if_neg (by rw [q]; decide), q1, q3, kvI_app w1 hlu]
    rw [same] at I'
    exact I'
  | false =>
    obtain ⟨ds, z, rfl, ez, hz8⟩ := keyOk_tup hk
    obtain ⟨q1, q2, xs, q3, q4⟩ := nd_of (P := X.prog) (w := X.w) I.hok (show H a = some (NdO a (kvN ks ps us)) from e) w1 r1 hlu
    have fd := NdR.find (z := z) w1 r2 w3 hlp q3
    obtain ⟨t, ws, rfl, ht, _⟩ := (show ∃ a vs, y = .ref a ∧ H a = some (.tup vs) ∧ Reps X.K F H ds vs [] by simpa only [Rep] using rk)
    cases ry
    have lx : xs.length = ks.length := by rw [← Paired.length q3, kvN_len hlp hlu]
    have all := nd_is (P := X.prog) (w := X.w) I.hok w1 r1 hlu q3
    refine wpAny_setItem_heap (knd := nestedKind X.prog X.w) (k := z) (hsz := by omega) (by show A.units + 1 + 8 < cLine; omega) ⟨nested_is I.hok _ ez rk rfl, hz8⟩ q4 fun h' dd' hs => h _ ?_
    rw [ez] at k4
    have new : NdR (kvN (dput ks vs (.tup ds) vd).1 ps' us') (storedH xs z t r) := by
      unfold storedH
      rcases k4 with ⟨q, p1, p2, p3⟩ | ⟨q, p1, p2, p3⟩
      · obtain ⟨d, hd⟩ := Option.isSome_iff_exists.mp q
        obtain ⟨_, p, hp, _⟩ := fd.1 d hd
        rw [if_pos (by rw [hp]; rfl), p1, p2, p3]
        exact NdR.repl rv w1 hlp hlu q3
      · have hn : dfind (some z) ks vs = none := by
          cases e : dfind (some z) ks vs with
          | none => rfl
          | some d => rw [e] at q; cases q
        rw [if_neg (by rw [fd.2 hn]; decide), p1, p2, p3, kvN_app hlp hlu]
        exact Paired.snoc q3 ⟨keyN_of ez, rfl, rv⟩
    have all2 : ∀ x, x ∈ storedH xs z t r → hash0 x.1 = x.1.hash X.w := by
      intro x hx
      unfold storedH at hx
      split at hx
      · obtain ⟨x0, hx0, rfl⟩ := List.mem_map.mp hx
        have := (all x0 hx0).2
        unfold putAt
        split <;> exact this
      · rcases List.mem_append.mp hx with z' | z'
        · exact (all x z').2
        · simp only [List.mem_singleton] at z'
          subst z'
          exact (hash0_eq X.w _ ez).symm
    have lz : (kvN (dput ks vs (.tup ds) vd).1 ps' us').length ≤ sizeLine := by
      rw [Paired.length new]
      have := storedH_length xs z t r
      omega
    obtain ⟨q, hq⟩ := (show ∃ q, h'.get? a = some q from let ⟨q, _, _, hq, _⟩ := dd'; ⟨q, hq⟩)
    exact d_write I (by rw [e]; exact dO_ne.2.2.2.1) hs ⟨q, hq⟩ (nd_new lz q2 new all2 dd')
end
end Mn

/-! MnC: what an evaluator's answer asks of the heap; the operators and built-ins. -/
namespace Mn
open PySem PySem.Spec PyProof.Rows L2

abbrev XWt := Str → Hp → Prop

/-- what an answer asks -/
def Kx (XW : XWt) (HB : Hp) (r : R D) (P : D → Prop) : Prop := match r with
  | .ok d => P d
  | .exc c => ∀ H', Same HB H' → XW c H'
  | .bad => False
/-- .. of a value, a list of values, a truth, told from a base FB, HB on -/
@[reducible] def Kt (K : PySem.W.Frag) (XW : XWt) (FB HB : Hp) (r : R D) (Q : VK) : Prop := Kx XW HB r fun d => ∀ v F' H' S, Ext FB HB F' H' → Rep K F' H' d v S → Fresh HB S → Q v H'
@[reducible] def KtL (K : PySem.W.Frag) (XW : XWt) (FB HB : Hp) (r : R D) (Q : List V → Hp → Prop) : Prop := Kx XW HB r fun d => ∃ ds, d = .tup ds ∧ ∀ vs F' H' S, Ext FB HB F' H' → Reps K F' H' ds vs S → Fresh HB S → Q vs H'
@[reducible] def KtB (XW : XWt) (FB HB : Hp) (r : R D) (Q : Bool → Hp → Prop) : Prop := Kx XW HB r fun d => ∃ b, d = .bl b ∧ ∀ F' H', Ext FB HB F' H' → Q b H'

section
variable {K : PySem.W.Frag} {XW : XWt} {FB HB F H : Hp} {Q : VK}
theorem kx_bind {r : R D} {f : D → R D} {P G : D → Prop} (h : Kx XW HB (r >>= f) P) (e : Same HB H) (k : ∀ d, r = .ok d → Kx XW HB (f d) P → G d) : Kx XW H r G := by
  cases r with
  | ok d => exact k d rfl h
  | exc c => exact fun H' s => h H' (e.trans s)
  | bad => exact h
theorem kt_bind {r : R D} {f : D → R D} {G : VK} {P : D → Prop} (h : Kx XW HB (r >>= f) P) (e : Ext FB HB F H)
    (k : ∀ d v F2 H2 S, r = .ok d → Ext F H F2 H2 → Rep K F2 H2 d v S → Fresh H S → Kx XW HB (f d) P → G v H2) : Kt K XW F H r G :=
  kx_bind h e.h fun d hd q v F' H' S a b c => k d v F' H' S hd a b c q
theorem kt_bindL {r : R D} {f : List D → R D} {G : List V → Hp → Prop} {P : D → Prop} (h : Kx XW HB (r >>= fun y => tupOf y >>= f) P) (e : Ext FB HB F H)
    (k : ∀ ds vs F2 H2 S, r = .ok (.tup ds) → Ext F H F2 H2 → Reps K F2 H2 ds vs S → Fresh H S → Kx XW HB (f ds) P → G vs H2) : KtL K XW F H r G :=
  kx_bind h e.h fun d hd q => by
    cases d with
    | tup ds => exact ⟨ds, rfl, fun vs F' H' S a b c => k ds vs F' H' S hd a b c q⟩
    | _ => exact q.elim
theorem kt_bindB {r : R D} {f : Bool → R D} {G : Bool → Hp → Prop} {P : D → Prop} (h : Kx XW HB (r >>= fun y => blOf y >>= f) P) (e : Ext FB HB F H)
    (k : ∀ b F2 H2, r = .ok (.bl b) → Ext F H F2 H2 → Kx XW HB (f b) P → G b H2) : KtB XW F H r G :=
  kx_bind h e.h fun d hd q => by
    cases d with
    | bl b => exact ⟨b, rfl, fun F' H' a => k b F' H' hd a q⟩
    | _ => exact q.elim
/-- a nearer base -/
theorem kt_base {r : R D} (h : Kt K XW FB HB r Q) (e : Ext FB HB F H) : Kt K XW F H r Q := by
  cases r with
  | ok d => exact fun v F' H' S a b c => h v F' H' S (e.trans a) b (c.mono e.h)
  | exc c => exact fun H' s => h H' (e.h.trans s)
  | bad => exact h
/-- flat answers -/
theorem kt_non (h : Kt K XW FB HB (.ok .non) Q) (e : Ext FB HB F H) : Q .non H := h .non F H [] e ⟨rfl, rfl⟩ .nil
theorem kt_bl {b : Bool} (h : Kt K XW FB HB (.ok (.bl b)) Q) (e : Ext FB HB F H) : Q (.bl b) H := h (.bl b) F H [] e ⟨rfl, rfl⟩ .nil
theorem kt_int {i : Int} (h : Kt K XW FB HB (.ok (.int i)) Q) (e : Ext FB HB F H) : Q (.int i) H := h (.int i) F H [] e ⟨rfl, rfl⟩ .nil
theorem kt_str {x : Str} (h : Kt K XW FB HB (.ok (.str x)) Q) (e : Ext FB HB F H) : Q (.str x) H := h (.str x) F H [] e ⟨rfl, rfl⟩ .nil
/-- a new object -/
theorem ext_new {p : Addr} {o : HO} (e : Ext FB HB F H) (hp : H p = none) : Ext FB HB F (upd H p o) :=
  ⟨e.f, fun b u z => by rw [upd_ne (ne_of_none (e.h _ _ z) hp)]; exact e.h _ _ z, fun b u z => by rw [upd_ne (ne_of_none (e.in' _ _ z) hp)]; exact e.in' _ _ z, e.new⟩
theorem same_new {p : Addr} {o : HO} (hp : H p = none) : Same H (upd H p o) := fun b u z => by rw [upd_ne (ne_of_none z hp)]; exact z
theorem ext_step {p : Addr} {o : HO} (i : Same F H) (hp : H p = none) : Ext F H F (upd H p o) := ext_new (Ext.refl i) hp
theorem free_in (i : Same F H) {p : Addr} (hp : H p = none) : F p = none := i.free hp
theorem kt_lst {ds : List D} (h : Kt K XW FB HB (.ok (.lst .own ds)) Q) (e : Ext FB HB F H) {vs : List V} {S : List Addr} (r : Reps K F H ds vs S) (f : Fresh HB S) {p : Addr} (hp : H p = none) : Q (.ref p) (upd H p (.lst vs)) := by
  have x := ext_step (o := .lst vs) e.in' hp
  refine h _ F _ (p :: S) (e.trans x) ?_ fun a ha => ?_
  · simp only [Rep]
    refine ⟨p, vs, S, rfl, upd_same, free_in e.in' hp, reps_ext x r, fun z => ?_, rfl⟩
    obtain ⟨⟨_, h1⟩, _⟩ := reps_mem ds r p z
    rw [hp] at h1
    cases h1
  · rcases List.mem_cons.mp ha with rfl | ha
    · exact e.h.free hp
    · exact f a ha
theorem kt_tup {ds : List D} (h : Kt K XW FB HB (.ok (.tup ds)) Q) (e : Ext FB HB F H) {vs : List V} {S : List Addr} (r : Reps K F H ds vs S) (f : Fresh HB S) {p : Addr} (hp : H p = none) : Q (.ref p) (upd H p (.tup vs)) := by
  have x := ext_step (o := .tup vs) e.in' hp
  refine h _ F _ S (e.trans x) ?_ f
  simp only [Rep]
  exact ⟨p, vs, rfl, upd_same, reps_ext x r⟩

/-! ### what stands for what -/
theorem rep_lst {k : LK} {ds : List D} {v : V} {S : List Addr} (i : Same F H) (h : Rep K F H (.lst k ds) v S) : ∃ a vs S', v = .ref a ∧ SqL K H a vs ∧ Reps K F H ds vs S' ∧ (∀ b, b ∈ S' → b ∈ S) := by
  cases k with
  | own =>
    simp only [Rep] at h
    obtain ⟨a, vs, S', rfl, h1, _, h3, _, rfl⟩ := h
    exact ⟨a, vs, S', rfl, .of h1, h3, fun b hb => List.mem_cons_of_mem _ hb⟩
  | frz =>
    simp only [Rep] at h
    obtain ⟨a, vs, rfl, h1, h3, rfl⟩ := h
    exact ⟨a, vs, [], rfl, .of (i _ _ h1), h3, fun b hb => hb⟩
  | ro =>
    simp only [Rep] at h
    obtain ⟨a, vs, rfl, h1, h3, rfl⟩ := h
    exact ⟨a, vs, [], rfl, i.seq h1, h3, fun b hb => hb⟩
/-- .. a tracked one -/
theorem rep_trk {k : LK} {ds : List D} {v : V} {S : List Addr} (i : Same F H) (hk : k ≠ .ro) (h : Rep K F H (.lst k ds) v S) : ∃ a vs S', v = .ref a ∧ H a = some (.lst vs) ∧ Reps K F H ds vs S' ∧ (∀ b, b ∈ S' → b ∈ S) := by
  cases k with
  | own =>
    simp only [Rep] at h
    obtain ⟨a, vs, S', rfl, h1, _, h3, _, rfl⟩ := h
    exact ⟨a, vs, S', rfl, h1, h3, fun b hb => List.mem_cons_of_mem _ hb⟩
  | frz =>
    simp only [Rep] at h
    obtain ⟨a, vs, rfl, h1, h3, rfl⟩ := h
    exact ⟨a, vs, [], rfl, i _ _ h1, h3, fun b hb => hb⟩
  | ro => exact absurd rfl hk
theorem rep_tupH {ds : List D} {v : V} {S : List Addr} (h : Rep K F H (.tup ds) v S) : ∃ a vs, v = .ref a ∧ H a = some (.tup vs) ∧ Reps K F H ds vs S := by simpa only [Rep] using h
theorem rep_tup {ds : List D} {v : V} {S : List Addr} (h : Rep K F H (.tup ds) v S) : ∃ a vs, v = .ref a ∧ SqT K H a vs ∧ Reps K F H ds vs S := by
  obtain ⟨a, vs, e, h1, h2⟩ := rep_tupH h
  exact ⟨a, vs, e, .of h1, h2⟩
theorem rep_int {i : Int} {v : V} {S : List Addr} (h : Rep K F H (.int i) v S) : v = .int i ∧ S = [] := by simpa only [Rep] using h
theorem rep_bl {i : Bool} {v : V} {S : List Addr} (h : Rep K F H (.bl i) v S) : v = .bl i ∧ S = [] := by simpa only [Rep] using h
theorem rep_str {i : Str} {v : V} {S : List Addr} (h : Rep K F H (.str i) v S) : v = .str i ∧ S = [] := by simpa only [Rep] using h
theorem rep_exc {c : Str} {v : V} {S : List Addr} (h : Rep K F H (.exc c) v S) : ∃ a, v = .ref a ∧ H a = some (ExV (.ref (He.ga K c)) a) := by
  simp only [Rep] at h
  obtain ⟨a, e, h1, _⟩ := h
  exact ⟨a, e, h1⟩
theorem rep_non {v : V} {S : List Addr} (h : Rep K F H .non v S) : v = .non ∧ S = [] := by simpa only [Rep] using h

mutual
/-- data as the library has them -/
theorem rep_dp (i : Same F H) : ∀ (d : D) {v : V} {S : List Addr} {p : PyData}, Rep K F H d v S → d.toPy = some p → Dp K H v p
  | .any, _, _, _, _, e => by simp [D.toPy] at e
  | .non, _, _, _, h, e => by
    obtain ⟨rfl, _⟩ := rep_non h
    simp only [D.toPy, Option.some.injEq] at e
    subst e
    exact .non
  | .bl b, _, _, _, h, e => by
    obtain ⟨rfl, _⟩ := rep_bl h
    simp only [D.toPy, Option.some.injEq] at e
    subst e
    exact .bl b
  | .int b, _, _, _, h, e => by
    obtain ⟨rfl, _⟩ := rep_int h
    simp only [D.toPy, Option.some.injEq] at e
    subst e
    exact .int b
  | .str b, _, _, _, h, e => by
    obtain ⟨rfl, _⟩ := rep_str h
    simp only [D.toPy, Option.some.injEq] at e
    subst e
    exact .str b
  | .exc c, _, _, _, _, e => by simp [D.toPy] at e
  | .dct _ _ _ _, _, _, _, _, e => by simp [D.toPy] at e
  | .tup ds, _, _, _, h, e => by
    obtain ⟨a, vs, rfl, h1, h2⟩ := rep_tup h
    simp only [D.toPy, Option.map_eq_some_iff] at e
    obtain ⟨ps, e, rfl⟩ := e
    exact .tup h1 (reps_dp i ds h2 e)
  | .lst k ds, _, _, _, h, e => by
    obtain ⟨a, vs, S', rfl, h1, h2, _⟩ := rep_lst i h
    simp only [D.toPy, Option.map_eq_some_iff] at e
    obtain ⟨ps, e, rfl⟩ := e
    exact .lst h1 (reps_dp i ds h2 e)
theorem reps_dp (i : Same F H) : ∀ (ds : List D) {vs : List V} {S : List Addr} {ps : List PyData}, Reps K F H ds vs S → D.toPys ds = some ps → DpAll K H vs ps
  | [], _, _, _, h, e => by
    simp only [Reps] at h
    obtain ⟨rfl, _⟩ := h
    simp only [D.toPys, Option.some.injEq] at e
    subst e
    exact .nil
  | d :: ds, _, _, _, h, e => by
    obtain ⟨v, vr, S1, S2, rfl, h1, h2, _, rfl⟩ := reps_uncons h
    simp only [D.toPys] at e
    split at e
    · rename_i x xs e1 e2
      cases e
      exact .cons (rep_dp i d h1 e1) (reps_dp i ds h2 e2)
    · cases e
end

/-- two values at hand -/
structure Two (K : PySem.W.Frag) (FB HB F H : Hp) (a b : D) (x y : V) : Prop where
  ex : ∃ S T, Ext FB HB F H ∧ Rep K F H a x S ∧ Rep K F H b y T ∧ Fresh HB S ∧ Fresh HB T ∧ (∀ c, c ∈ S → c ∉ T)
def r2D (K : PySem.W.Frag) (XW : XWt) (op : D → D → R D) : R2 := fun x y H Q => ∃ FB HB F a b, Two K FB HB F H a b x y ∧ Kt K XW FB HB (op a b) Q
end

def Bop.py : Bop → Operator
  | .add => .Add
  | .sub => .Sub
  | .mul => .Mult
  | .fdiv => .FloorDiv
  | .mod => .Mod
  | .pow => .Pow
def Cop.py : Cop → CmpOp
  | .eq => .Eq
  | .ne => .NotEq
  | .lt => .Lt
  | .le => .LtE
  | .gt => .Gt
  | .ge => .GtE
  | .isin => .In
  | .notin => .NotIn
  | .is => .Is
  | .isnot => .IsNot

section
variable {X : Cx} {XW : XWt}
theorem lim_line : LIM = sizeLine := rfl
theorem cat_ok {FB HB F H : Hp} {k l : LK} {xs ys : List D} {x y : V} {Q : VK} (t : Two X.K FB HB F H (.lst k xs) (.lst l ys) x y) (hk : k ≠ .ro) (hl : l ≠ .ro) (hz : xs.length + ys.length ≤ LIM) (h : Kt X.K XW FB HB (.ok (.lst .own (xs ++ ys))) Q) : rCat x y H Q := by
  obtain ⟨S, T, e, r1, r2, f1, f2, ap⟩ := t.ex
  obtain ⟨a, vs, S', rfl, h1, k1, s1⟩ := rep_trk e.in' hk r1
  obtain ⟨b, us, T', rfl, h2, k2, s2⟩ := rep_trk e.in' hl r2
  refine ⟨a, b, vs, us, rfl, rfl, h1, h2, by rw [reps_len k1, reps_len k2]; exact hz, fun p hp => ?_⟩
  exact kt_lst h e (reps_app k1 k2 fun c hc hd => ap c (s1 c hc) (s2 c hd)) (fun c hc => (List.mem_append.mp hc).elim (fun z => f1 c (s1 c z)) fun z => f2 c (s2 c z)) hp

theorem repS_fold (s : Str) : ∀ n : Nat, (⟨(List.replicate n s.cps).foldl (· ++ ·) #[]⟩ : Str) = repS s n := by
  have key : ∀ (n : Nat) (acc : Array Nat), (List.replicate n s.cps).foldl (· ++ ·) acc = (acc.toList ++ (List.replicate n s.cps.toList).flatten).toArray := by
    intro n
    induction n with
    | zero => intro acc; simp
    | succ n ih =>
      intro acc
      rw [List.replicate_succ, List.foldl_cons, ih, List.replicate_succ, List.flatten_cons]
      simp
  intro n
  unfold repS
  rw [key]
  simp
/-- s * n -/
theorem op_mulS {a : Str} {j : Int} (h0 : 0 ≤ j) (h1 : j ≤ 1000000) (h2 : a.length * j.toNat ≤ LIM) (pins : List (Addr × Obj)) (s : Shared) (σ : L2.St) (H : Hp) (v u : Value) (Q : VK) (I : Inv X pins σ H s) (rx : RelV (.str a) v) (ry : RelV (.int j) u) (q : Q (.str (repS a j.toNat)) H) :
    wpAny (model X.prog X.w) X.A (binaryOp .Mult v u) (EP X pins σ Q) X.xe s := by
  obtain ⟨t, rfl⟩ := rx
  obtain ⟨t', rfl⟩ := ry
  have hl : (repS a j.toNat).length = a.length * j.toNat := by
    unfold repS
    show (List.flatten _).toArray.size = a.cps.size * _
    rw [List.size_toArray, List.length_flatten]
    simp [Nat.mul_comm]
  refine PySem.P.mul_str (by rw [decide_eq_false (by omega), decide_eq_false (by omega)]; rfl) (fun h3 h4 hc => ?_) (fun _ _ => ?_) ?_
  · simp only [Bool.or_eq_false_iff, beq_eq_false_iff_ne, ne_eq] at h4
    have a1 : (9223372036854775807 : Int) / j * j ≤ 9223372036854775807 := Int.ediv_mul_le _ (by omega)
    have a2 : a.length ≤ 16777216 := Nat.le_trans (Nat.le_mul_of_pos_right _ (by omega)) h2
    have a3 : (16777216 : Int) ≤ 9223372036854775807 / j := (Int.le_ediv_iff_mul_le (by omega)).mpr (by omega)
    have hc' : (a.length : Int) > 9223372036854775807 / j := hc
    omega
  · show decide (_ > _) = false
    exact decide_eq_false (Nat.not_lt.mpr h2)
  · by_cases c : j < 1
    · rw [if_pos c]
      have e : repS a j.toNat = Str.empty := by
        rw [show j.toNat = 0 by omega]
        rfl
      rw [e] at q
      exact ⟨by decide, .str _, H, I.tok _, ⟨_, rfl⟩, q⟩
    · rw [if_neg c]
      by_cases d : (j == 1 || a.length == 0) = true
      · rw [if_pos d]
        have e : repS a j.toNat = a := by
          simp only [Bool.or_eq_true, beq_iff_eq] at d
          refine Str.ext' ?_
          rcases d with rfl | d
          · simp [repS]
          · have : a.cps.toList = [] := List.length_eq_zero_iff.mp (by simpa [Str.length] using d)
            have e2 : a.cps = #[] := by
              apply Array.toList_inj.mp
              simpa using this
            simp [repS, e2]
        rw [e] at q
        exact ⟨.str _, H, I, ⟨_, rfl⟩, q⟩
      · rw [if_neg d, repS_fold]
        exact ⟨by rw [hl]; exact h2, .str _, H, I.tok _, ⟨_, rfl⟩, q⟩

theorem bop_ok (op : Bop) : OpR X (binaryOp op.py) (r2D X.K XW (binop op)) := by
  intro pins s σ H x y v u Q I rx ry h
  obtain ⟨FB, HB, F, a, b, t, h⟩ := h
  obtain ⟨S, T, e, r1, r2, f1, f2, ap⟩ := id t.ex
  unfold binop at h
  split at h
  · obtain ⟨rfl, _⟩ := rep_int r1
    obtain ⟨rfl, _⟩ := rep_int r2
    exact op_add pins s σ H _ _ v u Q I rx ry ⟨_, _, rfl, rfl, kt_int h e⟩
  · obtain ⟨rfl, _⟩ := rep_str r1
    obtain ⟨rfl, _⟩ := rep_str r2
    split at h
    · rename_i hz
      exact op_add_str pins s σ H _ _ v u Q I rx ry ⟨_, _, rfl, rfl, hz, kt_str h e⟩
    · exact h.elim
  · split at h
    · rename_i hz
      exact op_cat pins s σ H _ _ v u Q I rx ry (cat_ok t (by decide) (by decide) hz h)
    · exact h.elim
  · split at h
    · rename_i hz
      exact op_cat pins s σ H _ _ v u Q I rx ry (cat_ok t (by decide) (by decide) hz h)
    · exact h.elim
  · split at h
    · rename_i hz
      exact op_cat pins s σ H _ _ v u Q I rx ry (cat_ok t (by decide) (by decide) hz h)
    · exact h.elim
  · split at h
    · rename_i hz
      exact op_cat pins s σ H _ _ v u Q I rx ry (cat_ok t (by decide) (by decide) hz h)
    · exact h.elim
  · obtain ⟨rfl, _⟩ := rep_int r1
    obtain ⟨rfl, _⟩ := rep_int r2
    exact op_sub pins s σ H _ _ v u Q I rx ry ⟨_, _, rfl, rfl, kt_int h e⟩
  · obtain ⟨rfl, _⟩ := rep_int r1
    obtain ⟨rfl, _⟩ := rep_int r2
    split at h
    · rename_i hz
      unfold okMul at hz
      simp only [Bool.or_eq_true, decide_eq_true_eq] at hz
      exact op_mul pins s σ H _ _ v u Q I rx ry ⟨_, _, rfl, rfl, hz.imp (fun _ => by omega) (fun _ => by omega), kt_int h e⟩
    · exact h.elim
  · rename_i ds j
    obtain ⟨rfl, _⟩ := rep_int r2
    split at h
    · rename_i hz
      simp only [Bool.and_eq_true, decide_eq_true_eq] at hz
      obtain ⟨hf, h0, h1, h2⟩ := hz
      obtain ⟨a, vs, S', rfl, k1, k2, ss⟩ := rep_trk e.in' (by decide) r1
      obtain ⟨rfl, k3⟩ := reps_flat (F' := F) _ hf k2
      refine op_rep pins s σ H _ _ v u Q I rx ry ⟨a, _, vs, rfl, rfl, k1, by omega, by omega, by rw [reps_len k2]; exact h2, fun p hp => ?_⟩
      have rr : ∀ n : Nat, Reps X.K F H (repL ds n) ((List.replicate n vs).flatten) [] := by
        intro n
        induction n with
        | zero => exact reps_nil'
        | succ n ih => simpa [repL, List.replicate_succ] using reps_app k3 ih fun a ha => (List.not_mem_nil ha).elim
      exact kt_lst h e (rr _) .nil hp
    · exact h.elim
  · obtain ⟨rfl, _⟩ := rep_str r1
    obtain ⟨rfl, _⟩ := rep_int r2
    split at h
    · rename_i hz
      simp only [decide_eq_true_eq] at hz
      exact op_mulS hz.1 hz.2.1 hz.2.2 pins s σ H v u Q I rx ry (kt_str h e)
    · exact h.elim
  · obtain ⟨rfl, _⟩ := rep_int r1
    obtain ⟨rfl, _⟩ := rep_int r2
    split at h
    · rename_i hz
      unfold okDiv at hz
      simp only [Bool.and_eq_true, decide_eq_true_eq] at hz
      exact op_fdivN pins s σ H _ _ v u Q I rx ry ⟨_, _, rfl, rfl, hz, kt_int h e⟩
    · exact h.elim
  · obtain ⟨rfl, _⟩ := rep_int r1
    obtain ⟨rfl, _⟩ := rep_int r2
    split at h
    · exact h.elim
    · rename_i hz
      exact op_modN pins s σ H _ _ v u Q I rx ry ⟨_, _, rfl, rfl, hz, kt_int h e⟩
  · obtain ⟨rfl, _⟩ := rep_int r1
    obtain ⟨rfl, _⟩ := rep_int r2
    split at h
    · rename_i hz
      unfold okPow at hz
      simp only [decide_eq_true_eq] at hz
      exact op_pow pins s σ H _ _ v u Q I rx ry ⟨_, _, rfl, rfl, hz, kt_int h e⟩
    · exact h.elim
  · exact h.elim

theorem kt_b {FB HB F H : Hp} {r : R Bool} {f : Bool → Bool} {Q : VK} (h : Kt X.K XW FB HB (r >>= fun k => .ok (.bl (f k))) Q) (e : Ext FB HB F H) (nx : ∀ c, r ≠ .exc c) : ∃ k, r = .ok k ∧ Q (.bl (f k)) H := by
  cases r with
  | ok k => exact ⟨k, rfl, kt_bl h e⟩
  | exc c => exact absurd rfl (nx c)
  | bad => exact h.elim
theorem eqD_nx (a b : D) (c : Str) : eqD a b ≠ .exc c := by
  unfold eqD
  split
  · split <;> exact fun z => nomatch z
  · exact fun z => nomatch z
theorem inD_nx (a : D) (b : List D) (c : Str) : inD a b ≠ .exc c := by
  unfold inD
  split
  · split <;> exact fun z => nomatch z
  · exact fun z => nomatch z
theorem eqD_of {a b : D} {k : Bool} (h : eqD a b = .ok k) : ∃ x y, a.toPy = some x ∧ b.toPy = some y ∧ SeqAt.shaped x = true ∧ SeqAt.shaped y = true ∧ k = PyData.eqv x y := by
  unfold eqD at h
  split at h
  · rename_i x y e1 e2
    split at h
    · rename_i hs
      simp only [Bool.and_eq_true] at hs
      cases h
      exact ⟨x, y, e1, e2, hs.1, hs.2, rfl⟩
    · cases h
  · cases h
theorem inD_of {a : D} {b : List D} {k : Bool} (h : inD a b = .ok k) : ∃ x ys, a.toPy = some x ∧ D.toPys b = some ys ∧ SeqAt.shaped x = true ∧ SeqAt.shaped (.list ys) = true ∧ k = ys.any fun z => PyData.eqv z x := by
  unfold inD at h
  split at h
  · rename_i x y e1 e2
    split at h
    · rename_i hs
      simp only [Bool.and_eq_true] at hs
      cases h
      exact ⟨x, y, e1, e2, hs.1, hs.2, rfl⟩
    · cases h
  · cases h

theorem op_inDT (hu : X.A.units + 65 < cLine) : OpR X (compareOp .In) (fun x y H Q => ∃ d ds, Dp X.K H x d ∧ Dp X.K H y (.tuple ds) ∧ SeqAt.shaped d = true ∧ SeqAt.shaped (.list ds) = true ∧ Q (.bl (ds.any fun z => PyData.eqv z d)) H) := by
  intro pins s σ H x y v u Q I rx ry h
  obtain ⟨d, ds, hd, he, sd, se, q⟩ := h
  obtain ⟨as, r1⟩ := Dp.reads I d x v hd rx
  obtain ⟨bs, r2⟩ := Dp.reads I (.tuple ds) y u he ry
  exact SeqAt.in_tuple_reads r2 r1 (SeqAt.canLay_of_shaped se) (SeqAt.canLay_of_shaped sd) (room_in_shaped sd hu) ⟨.bl _, H, I, rfl, q⟩
theorem op_notInDT (hu : X.A.units + 65 < cLine) : OpR X (compareOp .NotIn) (fun x y H Q => ∃ d ds, Dp X.K H x d ∧ Dp X.K H y (.tuple ds) ∧ SeqAt.shaped d = true ∧ SeqAt.shaped (.list ds) = true ∧ Q (.bl (!ds.any fun z => PyData.eqv z d)) H) := by
  intro pins s σ H x y v u Q I rx ry h
  obtain ⟨d, ds, hd, he, sd, se, q⟩ := h
  obtain ⟨as, r1⟩ := Dp.reads I d x v hd rx
  obtain ⟨bs, r2⟩ := Dp.reads I (.tuple ds) y u he ry
  exact SeqAt.notIn_tuple_reads r2 r1 (SeqAt.canLay_of_shaped se) (SeqAt.canLay_of_shaped sd) (room_in_shaped sd hu) ⟨.bl _, H, I, rfl, q⟩
theorem cop_ok (hu : X.A.units + 66 < cLine) (op : Cop) : OpR X (compareOp op.py) (r2D X.K XW (cmpop op)) := by
  intro pins s σ H x y v u Q I rx ry h
  obtain ⟨FB, HB, F, a, b, t, h⟩ := h
  obtain ⟨S, T, e, r1, r2, f1, f2, ap⟩ := id t.ex
  unfold cmpop at h
  split at h
  · obtain ⟨rfl, _⟩ := rep_int r1
    obtain ⟨rfl, _⟩ := rep_int r2
    exact op_lt pins s σ H _ _ v u Q I rx ry ⟨_, _, rfl, rfl, kt_bl h e⟩
  · obtain ⟨rfl, _⟩ := rep_int r1
    obtain ⟨rfl, _⟩ := rep_int r2
    exact op_le pins s σ H _ _ v u Q I rx ry ⟨_, _, rfl, rfl, kt_bl h e⟩
  · obtain ⟨rfl, _⟩ := rep_int r1
    obtain ⟨rfl, _⟩ := rep_int r2
    exact op_gt pins s σ H _ _ v u Q I rx ry ⟨_, _, rfl, rfl, kt_bl h e⟩
  · obtain ⟨rfl, _⟩ := rep_int r1
    obtain ⟨rfl, _⟩ := rep_int r2
    exact op_ge pins s σ H _ _ v u Q I rx ry ⟨_, _, rfl, rfl, kt_bl h e⟩
  · obtain ⟨k, hk, q⟩ := kt_b (f := fun k => k) h e (eqD_nx _ _)
    obtain ⟨p, q', e1, e2, s1, s2, rfl⟩ := eqD_of hk
    exact op_eqD (by omega) pins s σ H _ _ v u Q I rx ry ⟨p, q', rep_dp e.in' _ r1 e1, rep_dp e.in' _ r2 e2, s1, s2, q⟩
  · obtain ⟨k, hk, q⟩ := kt_b (f := fun k => !k) h e (eqD_nx _ _)
    obtain ⟨p, q', e1, e2, s1, s2, rfl⟩ := eqD_of hk
    exact op_neD (by omega) pins s σ H _ _ v u Q I rx ry ⟨p, q', rep_dp e.in' _ r1 e1, rep_dp e.in' _ r2 e2, s1, s2, q⟩
  · obtain ⟨k, hk, q⟩ := kt_b (f := fun k => k) h e (inD_nx _ _)
    obtain ⟨p, ys, e1, e2, s1, s2, rfl⟩ := inD_of hk
    exact op_inD (by omega) pins s σ H _ _ v u Q I rx ry ⟨p, ys, rep_dp e.in' _ r1 e1, rep_dp e.in' (.lst _ _) r2 (by simp [D.toPy, e2]), s1, s2, q⟩
  · obtain ⟨k, hk, q⟩ := kt_b (f := fun k => !k) h e (inD_nx _ _)
    obtain ⟨p, ys, e1, e2, s1, s2, rfl⟩ := inD_of hk
    exact op_notInD (by omega) pins s σ H _ _ v u Q I rx ry ⟨p, ys, rep_dp e.in' _ r1 e1, rep_dp e.in' (.lst _ _) r2 (by simp [D.toPy, e2]), s1, s2, q⟩
  · obtain ⟨k, hk, q⟩ := kt_b (f := fun k => k) h e (inD_nx _ _)
    obtain ⟨p, ys, e1, e2, s1, s2, rfl⟩ := inD_of hk
    exact op_inDT (by omega) pins s σ H _ _ v u Q I rx ry ⟨p, ys, rep_dp e.in' _ r1 e1, rep_dp e.in' (.tup _) r2 (by simp [D.toPy, e2]), s1, s2, q⟩
  · obtain ⟨k, hk, q⟩ := kt_b (f := fun k => !k) h e (inD_nx _ _)
    obtain ⟨p, ys, e1, e2, s1, s2, rfl⟩ := inD_of hk
    exact op_notInDT (by omega) pins s σ H _ _ v u Q I rx ry ⟨p, ys, rep_dp e.in' _ r1 e1, rep_dp e.in' (.tup _) r2 (by simp [D.toPy, e2]), s1, s2, q⟩
  · split at h
    · rename_i hk
      obtain ⟨p, rfl, dc⟩ := rep_dct e.in' r2
      cases ry
      exact dc_in hu I dc hk r1 rx fun s' I' => ⟨.bl _, H, I', rfl, kt_bl h e⟩
    · exact h.elim
  · split at h
    · rename_i hk
      obtain ⟨p, rfl, dc⟩ := rep_dct e.in' r2
      cases ry
      exact dc_notin hu I dc hk r1 rx fun s' I' => ⟨.bl _, H, I', rfl, kt_bl h e⟩
    · exact h.elim
  · rename_i a z
    obtain ⟨rfl, _⟩ := rep_str r1
    obtain ⟨rfl, _⟩ := rep_str r2
    split at h
    · rename_i c hc
      have e1 : a = ⟨#[c]⟩ := Str.ext' (Array.toList_inj.mp hc)
      subst e1
      exact op_in_sign pins s σ H _ _ v u Q I rx ry ⟨c, z, rfl, rfl, kt_bl h e⟩
    · exact h.elim
  · rename_i a z
    obtain ⟨rfl, _⟩ := rep_str r1
    obtain ⟨rfl, _⟩ := rep_str r2
    split at h
    · rename_i c hc
      have e1 : a = ⟨#[c]⟩ := Str.ext' (Array.toList_inj.mp hc)
      subst e1
      exact op_notIn_sign pins s σ H _ _ v u Q I rx ry ⟨c, z, rfl, rfl, kt_bl h e⟩
    · exact h.elim
  all_goals first
    | exact h.elim
    | (obtain ⟨rfl, _⟩ := rep_bl r2
       obtain ⟨rfl, _⟩ := rep_bl r1
       first
         | exact op_isBl pins s σ H _ _ v u Q I rx ry ⟨_, _, rfl, rfl, kt_bl h e⟩
         | exact op_notBl pins s σ H _ _ v u Q I rx ry ⟨_, _, rfl, rfl, kt_bl h e⟩)
    | (obtain ⟨rfl, _⟩ := rep_non r2
       first
         | (obtain ⟨rfl, _⟩ := rep_non r1)
         | (obtain ⟨rfl, _⟩ := rep_bl r1)
         | (obtain ⟨rfl, _⟩ := rep_int r1)
         | (obtain ⟨rfl, _⟩ := rep_str r1)
         | (obtain ⟨_, _, rfl, _⟩ := rep_tup r1)
         | (obtain ⟨_, _, _, rfl, _⟩ := rep_lst e.in' r1)
         | (obtain ⟨_, rfl, _⟩ := rep_dct e.in' r1)
         | (obtain ⟨_, rfl, _⟩ := rep_exc r1)
       first
         | exact op_isN pins s σ H _ _ v u Q I rx ry ⟨rfl, kt_bl h e⟩
         | exact op_notN pins s σ H _ _ v u Q I rx ry ⟨rfl, kt_bl h e⟩)

/-! ### subscripts -/
theorem atI_map_get {ds : List D} {vs : List V} {i : Int} {d : D} (hl : vs.length = ds.length) (h : atI ds i = some d) : ∃ j : Nat, ds[j]? = some d ∧ ∀ v, vs[j]? = some v → atI vs i = some v := by
  unfold atI at h ⊢
  rw [hl]
  cases e : ixN ds.length i with
  | none => rw [e] at h; cases h
  | some j => rw [e] at h; exact ⟨j, h, fun v hv => hv⟩
theorem kt_item {FB HB F H : Hp} {d : D} {v : V} {S : List Addr} {Q : VK} (h : Kt X.K XW FB HB (.ok d) Q) (e : Ext FB HB F H) (r : Rep X.K F H d v S) (f : Fresh HB S) : Q v H := h v F H S e r f
theorem ix_ok (hu : X.A.units + 66 < cLine) : IxR X (r2D X.K XW ixop) := by
  intro value slice pins s σ H x y v u Q I rx ry h hs
  obtain ⟨FB, HB, F, a, b, t, h⟩ := h
  obtain ⟨S, T, e, r1, r2, f1, f2, ap⟩ := id t.ex
  unfold ixop at h
  split at h
  · obtain ⟨rfl, _⟩ := rep_int r2
    obtain ⟨p, vs, S', rfl, h1, h2, hss⟩ := rep_lst e.in' r1
    split at h
    · rename_i hd
      obtain ⟨j, hj, hv⟩ := atI_map_get (reps_len h2) hd
      obtain ⟨w, S2, k1, k2, k3⟩ := reps_get h2 hj
      refine ix_list value slice pins s σ H _ _ v u Q I rx ry ⟨p, vs, _, w, rfl, rfl, h1, hv w k1, kt_item h e k2 fun c hc => f1 c (hss c (k3 c hc))⟩ hs
    · exact h.elim
  · obtain ⟨rfl, _⟩ := rep_int r2
    obtain ⟨p, vs, rfl, h1, h2⟩ := rep_tup r1
    split at h
    · rename_i hd
      obtain ⟨j, hj, hv⟩ := atI_map_get (reps_len h2) hd
      obtain ⟨w, S2, k1, k2, k3⟩ := reps_get h2 hj
      refine ix_tup value slice pins s σ H _ _ v u Q I rx ry ⟨p, vs, _, w, rfl, rfl, h1, hv w k1, kt_item h e k2 fun c hc => f1 c (k3 c hc)⟩ hs
    · exact h.elim
  · obtain ⟨rfl, _⟩ := rep_int r2
    obtain ⟨rfl, _⟩ := rep_str r1
    split at h
    · rename_i hz
      split at h
      · rename_i c hc
        refine ix_str value slice pins s σ H _ _ v u Q I rx ry ⟨_, _, c, rfl, rfl, hz, hc, kt_str h e⟩ hs
      · exact h.elim
    · exact h.elim
  · split at h
    · rename_i hk
      split at h
      · rename_i d hd
        obtain ⟨p, rfl, dc⟩ := rep_dct e.in' r1
        cases rx
        have g : ∀ {Q' : Value → Shared → Prop} {E' : Value → Shared → Prop}, (∀ v w' s', Inv X pins σ H s' → RelV v w' → Rep X.K F H d v [] → Q' w' s') → s.TypeIs (.ref p) "dict" ∧ wpAny (model X.prog X.w) X.A (getItem (.ref p) u) Q' E' s := fun h' => dc_get hu I dc hk r2 ry hd h'
        have ty := (g (Q' := fun _ _ => True) (E' := fun _ _ => True) fun _ _ _ _ _ _ => trivial).1
        exact tail_any ty PySem.F.slot_dict_getitem.lookup (g fun v w' s' I' r' rd => ⟨v, H, I', r', kt_item h e rd .nil⟩).2 hs
      · exact h.elim
    · exact h.elim
  · exact h.elim

theorem reps_take {K : PySem.W.Frag} {F H : Hp} : ∀ {ds : List D} {vs : List V} {S : List Addr} (n : Nat), Reps K F H ds vs S → ∃ S', Reps K F H (ds.take n) (vs.take n) S' ∧ ∀ a, a ∈ S' → a ∈ S
  | [], _, _, n, h => by
    simp only [Reps] at h
    obtain ⟨rfl, rfl⟩ := h
    exact ⟨[], by simp [Reps], fun a ha => ha⟩
  | d :: ds, _, _, 0, h => ⟨[], by simp [Reps], fun a ha => nomatch ha⟩
  | d :: ds, _, _, n + 1, h => by
    obtain ⟨v, vr, S1, S2, rfl, h1, h2, h3, rfl⟩ := reps_uncons h
    obtain ⟨S', k1, k2⟩ := reps_take n h2
    exact ⟨S1 ++ S', reps_cons h1 k1 fun a ha hb => h3 a ha (k2 a hb), fun a ha => (List.mem_append.mp ha).elim (List.mem_append_left _) fun z => List.mem_append_right _ (k2 a z)⟩
theorem reps_drop {K : PySem.W.Frag} {F H : Hp} : ∀ {ds : List D} {vs : List V} {S : List Addr} (n : Nat), Reps K F H ds vs S → ∃ S', Reps K F H (ds.drop n) (vs.drop n) S' ∧ ∀ a, a ∈ S' → a ∈ S
  | [], _, _, n, h => by
    simp only [Reps] at h
    obtain ⟨rfl, rfl⟩ := h
    exact ⟨[], by simp [Reps], fun a ha => ha⟩
  | d :: ds, vs, S, 0, h => ⟨S, by simpa using h, fun a ha => ha⟩
  | d :: ds, _, _, n + 1, h => by
    obtain ⟨v, vr, S1, S2, rfl, h1, h2, h3, rfl⟩ := reps_uncons h
    obtain ⟨S', k1, k2⟩ := reps_drop n h2
    exact ⟨S', by simpa using k1, fun a ha => List.mem_append_right _ (k2 a ha)⟩
theorem reps_cut {K : PySem.W.Frag} {F H : Hp} {ds : List D} {vs : List V} {S : List Addr} (lo hi : Option Int) (h : Reps K F H ds vs S) : ∃ S', Reps K F H (cutD ds lo hi) (cutV vs lo hi) S' ∧ ∀ a, a ∈ S' → a ∈ S := by
  unfold cutD cutV
  rw [reps_len h]
  obtain ⟨S1, k1, q1⟩ := reps_drop (HT.sIx ds.length 0 lo) h
  obtain ⟨S2, k2, q2⟩ := reps_take (HT.sIx ds.length ds.length hi - HT.sIx ds.length 0 lo) k1
  exact ⟨S2, k2, fun a ha => q1 a (q2 a ha)⟩
theorem reps_rev {K : PySem.W.Frag} {F H : Hp} : ∀ {ds : List D} {vs : List V} {S : List Addr}, Reps K F H ds vs S → ∃ S', Reps K F H ds.reverse vs.reverse S' ∧ ∀ a, a ∈ S' → a ∈ S
  | [], _, _, h => by
    simp only [Reps] at h
    obtain ⟨rfl, rfl⟩ := h
    exact ⟨[], by simp [Reps], fun a ha => ha⟩
  | d :: ds, _, _, h => by
    obtain ⟨v, vr, S1, S2, rfl, h1, h2, h3, rfl⟩ := reps_uncons h
    obtain ⟨S', k1, k2⟩ := reps_rev h2
    refine ⟨S' ++ S1, ?_, fun a ha => (List.mem_append.mp ha).elim (fun z => List.mem_append_right _ (k2 a z)) fun z => List.mem_append_left _ z⟩
    rw [List.reverse_cons, List.reverse_cons]
    exact reps_app k1 (reps_one h1) fun a ha hb => h3 a hb (k2 a ha)

/-- one value at hand -/
def One (K : PySem.W.Frag) (FB HB F H : Hp) (a : D) (x : V) : Prop := ∃ S, Ext FB HB F H ∧ Rep K F H a x S ∧ Fresh HB S

theorem sl_ok : SlR X (fun x lo hi H Q => ∃ FB HB F a, One X.K FB HB F H a x ∧ Kt X.K XW FB HB (slop a lo hi) Q) := by
  intro pins s σ H x v vl vu lo hi sl Q I rx h1 h2 h3 h
  obtain ⟨FB, HB, F, a, ⟨S, e, r1, f1⟩, h⟩ := h
  unfold slop at h
  split at h
  · obtain ⟨p, vs, S', rfl, k1, k2, hss⟩ := rep_lst e.in' r1
    refine sl_list pins s σ H _ v vl vu _ _ sl Q I rx h1 h2 h3 ⟨p, vs, rfl, k1, fun q hq => ?_⟩
    obtain ⟨S2, q1, q2⟩ := reps_cut _ _ k2
    exact kt_lst h e q1 (fun c hc => f1 c (hss c (q2 c hc))) hq
  · obtain ⟨rfl, _⟩ := rep_str r1
    split at h
    · rename_i hz
      exact sl_str pins s σ H _ v vl vu _ _ sl Q I rx h1 h2 h3 ⟨_, rfl, hz, kt_str h e⟩
    · exact h.elim
  · exact h.elim

/-! ### built-ins -/
def rD (K : PySem.W.Frag) (XW : XWt) (op : List D → R D) : List V → Hp → VK → Prop := fun vs H Q => ∃ FB HB F S ds, Ext FB HB F H ∧ Reps K F H ds vs S ∧ Fresh HB S ∧ Kt K XW FB HB (op ds) Q
theorem reps_1 {K : PySem.W.Frag} {F H : Hp} {a : D} {vs : List V} {S : List Addr} (h : Reps K F H [a] vs S) : ∃ x, vs = [x] ∧ Rep K F H a x S := by
  obtain ⟨v, vr, S1, S2, rfl, h1, h2, h3, rfl⟩ := reps_uncons h
  simp only [Reps] at h2
  obtain ⟨rfl, rfl⟩ := h2
  exact ⟨v, rfl, by simpa using h1⟩
theorem reps_2 {K : PySem.W.Frag} {F H : Hp} {a b : D} {vs : List V} {S : List Addr} (h : Reps K F H [a, b] vs S) : ∃ x y S1 S2, vs = [x, y] ∧ Rep K F H a x S1 ∧ Rep K F H b y S2 := by
  obtain ⟨v, vr, S1, S2, rfl, h1, h2, h3, rfl⟩ := reps_uncons h
  obtain ⟨w, rfl, h4⟩ := reps_1 h2
  exact ⟨v, w, S1, S2, rfl, h1, h4⟩
theorem ints_reps {K : PySem.W.Frag} {F H : Hp} : ∀ {ds : List D} {ns : List Int} {vs : List V} {S : List Addr}, intsOf ds = some ns → Reps K F H ds vs S → vs = ns.map V.int
  | [], _, _, _, e, h => by
    simp only [Reps] at h
    simp only [intsOf, Option.some.injEq] at e
    subst e
    exact h.1
  | .int i :: ds, _, _, _, e, h => by
    obtain ⟨v, vr, S1, S2, rfl, h1, h2, h3, rfl⟩ := reps_uncons h
    simp only [intsOf, Option.map_eq_some_iff] at e
    obtain ⟨ns, e, rfl⟩ := e
    obtain ⟨rfl, _⟩ := rep_int h1
    rw [ints_reps e h2, List.map_cons]
  | .any :: _, _, _, _, e, _ => by simp [intsOf] at e
  | .non :: _, _, _, _, e, _ => by simp [intsOf] at e
  | .bl _ :: _, _, _, _, e, _ => by simp [intsOf] at e
  | .str _ :: _, _, _, _, e, _ => by simp [intsOf] at e
  | .tup _ :: _, _, _, _, e, _ => by simp [intsOf] at e
  | .lst _ _ :: _, _, _, _, e, _ => by simp [intsOf] at e
  | .exc _ :: _, _, _, _, e, _ => by simp [intsOf] at e
  | .dct _ _ _ _ :: _, _, _, _, e, _ => by simp [intsOf] at e
theorem bls_reps {K : PySem.W.Frag} {F H : Hp} : ∀ {ds : List D} {ns : List Bool} {vs : List V} {S : List Addr}, blsOf ds = some ns → Reps K F H ds vs S → vs = ns.map V.bl
  | [], _, _, _, e, h => by
    simp only [Reps] at h
    simp only [blsOf, Option.some.injEq] at e
    subst e
    exact h.1
  | .bl i :: ds, _, _, _, e, h => by
    obtain ⟨v, vr, S1, S2, rfl, h1, h2, h3, rfl⟩ := reps_uncons h
    simp only [blsOf, Option.map_eq_some_iff] at e
    obtain ⟨ns, e, rfl⟩ := e
    obtain ⟨rfl, _⟩ := rep_bl h1
    rw [bls_reps e h2, List.map_cons]
  | .any :: _, _, _, _, e, _ => by simp [blsOf] at e
  | .non :: _, _, _, _, e, _ => by simp [blsOf] at e
  | .int _ :: _, _, _, _, e, _ => by simp [blsOf] at e
  | .str _ :: _, _, _, _, e, _ => by simp [blsOf] at e
  | .tup _ :: _, _, _, _, e, _ => by simp [blsOf] at e
  | .lst _ _ :: _, _, _, _, e, _ => by simp [blsOf] at e
  | .exc _ :: _, _, _, _, e, _ => by simp [blsOf] at e
  | .dct _ _ _ _ :: _, _, _, _, e, _ => by simp [blsOf] at e
theorem reps_ints {K : PySem.W.Frag} {F H : Hp} : ∀ ns : List Int, Reps K F H (ns.map D.int) (ns.map V.int) []
  | [] => reps_nil'
  | n :: ns => by
    have := reps_cons (K := K) (F := F) (H := H) (d := .int n) (v := .int n) (S := []) ⟨rfl, rfl⟩ (reps_ints ns) (fun a ha => nomatch ha)
    simpa using this

theorem insI_perm (x : Int) : ∀ ns : List Int, (insI x ns).Perm (x :: ns)
  | [] => .refl _
  | y :: r => by
    unfold insI
    split
    · exact .refl _
    · exact ((insI_perm x r).cons y).trans (.swap x y r)
theorem sortI_perm : ∀ ns : List Int, (sortI ns).Perm ns
  | [] => .refl _
  | x :: r => (insI_perm x (sortI r)).trans ((sortI_perm r).cons x)
theorem insI_sorted (x : Int) : ∀ ns : List Int, ns.Pairwise (· ≤ ·) → (insI x ns).Pairwise (· ≤ ·)
  | [], _ => by simp [insI]
  | y :: r, h => by
    unfold insI
    split
    · rename_i hxy
      refine List.pairwise_cons.mpr ⟨fun z hz => ?_, h⟩
      rcases List.mem_cons.mp hz with rfl | hz
      · exact hxy
      · exact Int.le_trans hxy ((List.pairwise_cons.mp h).1 z hz)
    · rename_i hxy
      have h' := List.pairwise_cons.mp h
      refine List.pairwise_cons.mpr ⟨fun z hz => ?_, insI_sorted x r h'.2⟩
      rcases List.mem_cons.mp ((insI_perm x r).mem_iff.mp hz) with rfl | hz
      · omega
      · exact h'.1 z hz
theorem sortI_sorted : ∀ ns : List Int, (sortI ns).Pairwise (· ≤ ·)
  | [] => .nil
  | x :: r => insI_sorted x _ (sortI_sorted r)
theorem sorted_one {a b : List Int} (p : a.Perm b) (ha : a.Pairwise (· ≤ ·)) (hb : b.Pairwise (· ≤ ·)) : a = b :=
  p.eq_of_pairwise (fun x y _ _ h1 h2 => Int.le_antisymm h1 h2) ha hb
theorem maxI_mem : ∀ (n : Int) (ns : List Int), maxI (n :: ns) ∈ n :: ns
  | n, [] => by simp [maxI]
  | n, m :: r => by
    have ih := maxI_mem m r
    unfold maxI
    split
    · exact List.mem_cons_of_mem _ ih
    · exact List.mem_cons_self
theorem maxI_le : ∀ (n : Int) (ns : List Int) (y : Int), y ∈ n :: ns → y ≤ maxI (n :: ns)
  | n, [], y, h => by simp [maxI] at h ⊢; omega
  | n, m :: r, y, h => by
    have ih := maxI_le m r
    unfold maxI
    rcases List.mem_cons.mp h with rfl | h
    · split <;> omega
    · have := ih y h
      split <;> omega
theorem minI_mem : ∀ (n : Int) (ns : List Int), minI (n :: ns) ∈ n :: ns
  | n, [] => by simp [minI]
  | n, m :: r => by
    have ih := minI_mem m r
    unfold minI
    split
    · exact List.mem_cons_of_mem _ ih
    · exact List.mem_cons_self
theorem minI_le : ∀ (n : Int) (ns : List Int) (y : Int), y ∈ n :: ns → minI (n :: ns) ≤ y
  | n, [], y, h => by simp [minI] at h ⊢; omega
  | n, m :: r, y, h => by
    have ih := minI_le m r
    unfold minI
    rcases List.mem_cons.mp h with rfl | h
    · split <;> omega
    · have := ih y h
      split <;> omega

def Blt.py : Blt → Str × Value
  | .len => ("len", .builtin "len")
  | .sorted => ("sorted", .builtin "sorted")
  | .list => ("list", .type "list")
  | .tuple => ("tuple", .type "tuple")
  | .int => ("int", .type "int")
  | .min1 => ("min", .builtin "min")
  | .max1 => ("max", .builtin "max")
  | .min2 => ("min", .builtin "min")
  | .max2 => ("max", .builtin "max")
  | .abs => ("abs", .builtin "abs")
  | .all => ("all", .builtin "all")
  | .str => ("str", .type "str")

theorem vals_each {P : V → Prop} : ∀ {ds : List D} {ws : List V} {us : List Value}, Vals ws us → ds.length = ws.length → PySem.W.EachIs (fun v (b : D × V) => RelV b.2 v) us (ds.zip ws)
  | [], [], _, h, _ => by cases h; exact .nil
  | d :: ds, w :: ws, _, h, hl => by
    cases h with
    | cons h1 h2 => exact .cons h1 (vals_each (P := P) h2 (by simpa using hl))
  | [], _ :: _, _, _, hl => by simp at hl
  | _ :: _, [], _, _, hl => by simp at hl
theorem each_vals : ∀ {bs : List (D × V)} {us : List Value}, PySem.W.EachIs (fun v (b : D × V) => RelV b.2 v) us bs → Vals (bs.map (·.2)) us
  | [], _, h => by cases h; exact .nil
  | b :: bs, _, h => by
    cases h with
    | cons h1 h2 => exact .cons h1 (each_vals h2)
theorem each_reads {h : Heap} : ∀ {ds : List D} {ws : List V} {us : List Value} {ys : List PyData} {as : List Addr}, D.toPys ds = some ys → ReadsAll h us ys as → ds.length = ws.length → PySem.W.EachIs (fun v (b : D × V) => ∃ as, Reads h v (pyOf b.1) as) us (ds.zip ws)
  | [], [], _, _, _, e, r, _ => by
    simp only [D.toPys, Option.some.injEq] at e
    subst e
    cases r
    exact .nil
  | d :: ds, w :: ws, _, _, _, e, r, hl => by
    simp only [D.toPys] at e
    split at e
    · rename_i x xs e1 e2
      cases e
      cases r with
      | cons h1 h2 => exact .cons ⟨_, by rw [show pyOf (d, w).1 = x by simp [pyOf, e1]]; exact h1⟩ (each_reads e2 h2 (by simpa using hl))
    · cases e
  | [], _ :: _, _, _, _, _, _, hl => by simp at hl
  | _ :: _, [], _, _, _, _, _, hl => by simp at hl
theorem pys_pyOf : ∀ {ds : List D} {ys : List PyData} {ws : List V}, D.toPys ds = some ys → ds.length = ws.length → (ds.zip ws).map (fun b => pyOf b.1) = ys
  | [], _, ws, e, _ => by
    simp only [D.toPys, Option.some.injEq] at e
    subst e
    simp
  | d :: ds, _, [], _, hl => by simp at hl
  | d :: ds, _, w :: ws, e, hl => by
    simp only [D.toPys] at e
    split at e
    · rename_i x xs e1 e2
      cases e
      rw [List.zip_cons_cons, List.map_cons, pys_pyOf e2 (by simpa using hl)]
      simp [pyOf, e1]
    · cases e
theorem reps_perm {F H : Hp} {K : PySem.W.Frag} {bs cs : List (D × V)} (p : bs.Perm cs) : ∀ {S : List Addr}, Reps K F H (bs.map (·.1)) (bs.map (·.2)) S → ∃ T, Reps K F H (cs.map (·.1)) (cs.map (·.2)) T ∧ ∀ a, a ∈ T → a ∈ S := by
  induction p with
  | nil => exact fun r => ⟨_, r, fun _ h => h⟩
  | @cons b l1 l2 _ ih =>
    intro S r
    obtain ⟨v, vr, S1, S2, e, h1, h2, h3, rfl⟩ := reps_uncons r
    rw [List.map_cons] at e
    injection e with e1 e2
    subst e1 e2
    obtain ⟨T, t1, t2⟩ := ih h2
    refine ⟨S1 ++ T, reps_cons h1 t1 fun a ha hb => h3 a ha (t2 a hb), fun a ha => ?_⟩
    rcases List.mem_append.mp ha with ha | ha
    · exact List.mem_append_left _ ha
    · exact List.mem_append_right _ (t2 a ha)
  | swap b c l =>
    intro S r
    obtain ⟨v, vr, S1, S2, e, h1, h2, h3, rfl⟩ := reps_uncons r
    rw [List.map_cons, List.map_cons] at e
    injection e with e1 e2
    subst e1 e2
    obtain ⟨v', vr', S3, S4, e', h4, h5, h6, rfl⟩ := reps_uncons h2
    injection e' with e1 e2
    subst e1 e2
    refine ⟨S3 ++ (S1 ++ S4), reps_cons h4 (reps_cons h1 h5 fun a ha hb => h3 a ha (List.mem_append_right _ hb)) fun a ha hb => ?_, fun a ha => ?_⟩
    · rcases List.mem_append.mp hb with hb | hb
      · exact h3 a hb (List.mem_append_left _ ha)
      · exact h6 a ha hb
    · simp only [List.mem_append] at ha ⊢
      rcases ha with ha | ha | ha
      · exact .inr (.inl ha)
      · exact .inl ha
      · exact .inr (.inr ha)
  | trans _ _ i1 i2 =>
    intro S r
    obtain ⟨T, t1, t2⟩ := i1 r
    obtain ⟨U, u1, u2⟩ := i2 t1
    exact ⟨U, u1, fun a ha => t2 a (u2 a ha)⟩
theorem zip_fst {α β : Type} : ∀ {a : List α} {b : List β}, a.length = b.length → (a.zip b).map (·.1) = a
  | [], _, _ => by simp
  | x :: a, [], h => by simp at h
  | x :: a, y :: b, h => by rw [List.zip_cons_cons, List.map_cons, zip_fst (by simpa using h)]
theorem zip_snd {α β : Type} : ∀ {a : List α} {b : List β}, a.length = b.length → (a.zip b).map (·.2) = b
  | [], [], _ => by simp
  | [], _ :: _, h => by simp at h
  | x :: a, [], h => by simp at h
  | x :: a, y :: b, h => by rw [List.zip_cons_cons, List.map_cons, zip_snd (by simpa using h)]
theorem ordOk_of {ys : List PyData} (h : ordOk ys = true) : PySem.W.AllAlike ys ∧ PySem.W.Sortable ys ∧ ∀ d, d ∈ ys → d.depth ≤ 40 := by
  unfold ordOk at h
  simp only [Bool.and_eq_true, Bool.or_eq_true, List.all_eq_true, decide_eq_true_eq] at h
  obtain ⟨⟨h1, h2⟩, h3⟩ := h
  refine ⟨fun d hd d' hd' => h1 d hd d' hd', ?_, h3⟩
  rcases h2 with h2 | h2
  · refine .inl fun d hd => ?_
    have := h2 d hd
    cases d with
    | tuple l =>
      cases l with
      | nil => simp [tupC] at this
      | cons x r => exact ⟨x, r, rfl⟩
    | _ => simp [tupC] at this
  · refine .inr fun d hd => ?_
    have := h2 d hd
    refine ⟨fun e => ?_, fun xs e => ?_⟩
    · subst e; simp [othC] at this
    · subst e; simp [othC] at this
/-- sorted(xs), data of any kind -/
theorem sorted_ok (hu : X.A.units + 66 < cLine) {FB HB F H : Hp} {k : LK} {ds : List D} {ys : List PyData} {x : V} {us : List Value} {S : List Addr} {Q : VK} {pins : List (Addr × Obj)} {σ : L2.St} {s : Shared} (I : Inv X pins σ H s) (rv : Vals [x] us)
    (e : Ext FB HB F H) (r : Rep X.K F H (.lst k ds) x S) (f : Fresh HB S) (hy : D.toPys ds = some ys) (ho : ordOk ys = true) (h : Kt X.K XW FB HB (.ok (.lst .own (ds.mergeSort leD))) Q) :
    wpAny (model X.prog X.w) X.A (call (.builtin "sorted") us) (EP X pins σ Q) X.xe s := by
  obtain ⟨a, ws, S', rfl, k1, k2, k3⟩ := rep_lst e.in' r
  obtain ⟨its, rvs, hl, hz⟩ := I.list k1
  rw [Vals.ref1 rv]
  have dp := reps_dp e.in' ds k2 hy
  obtain ⟨as, rd⟩ := Dp.readsAll I ys _ its dp rvs
  have hlen : ds.length = ws.length := (reps_len k2).symm
  obtain ⟨o1, o2, o3⟩ := ordOk_of ho
  have py := pys_pyOf (ws := ws) hy hlen
  have zl : (ds.zip ws).length = ws.length := by rw [List.length_zip, hlen, Nat.min_self]
  refine PySem.W.sorted_data (R := fun v (b : D × V) => RelV b.2 v) (enc := fun b : D × V => pyOf b.1) (bs := ds.zip ws) hl.isList (vals_each (P := fun _ => True) rvs hlen) (each_reads hy rd hlen) (by rw [py]; exact o1) (by rw [py]; exact o2) (by rw [zl]; exact hz) (fun b hb => ?_) fun out h1 eo => ?_
  · have := o3 (pyOf b.1) (by rw [← py]; exact List.mem_map.mpr ⟨b, hb, rfl⟩)
    omega
  · have pm := List.mergeSort_perm (ds.zip ws) (PySem.W.dataLe false fun b : D × V => pyOf b.1)
    have em : ((ds.zip ws).mergeSort (PySem.W.dataLe false fun b : D × V => pyOf b.1)).map (·.1) = ds.mergeSort leD := by
      have q := List.map_mergeSort (r := PySem.W.dataLe false fun b : D × V => pyOf b.1) (s := leD) (f := fun b : D × V => b.1) (l := ds.zip ws) (fun a _ b _ => rfl)
      rw [zip_fst hlen] at q
      exact q
    obtain ⟨T, t1, t2⟩ := reps_perm (K := X.K) (F := F) (H := H) pm.symm (S := S') (by rw [zip_fst hlen, zip_snd hlen]; exact k2)
    rw [em] at t1
    obtain ⟨ep, he'⟩ := PyProof.Rows.sortedAll_at s.heap its out.toArray
    have hlen' : (((ds.zip ws).mergeSort (PySem.W.dataLe false fun b : D × V => pyOf b.1)).map (·.2)).length ≤ sizeLine := by
      rw [List.length_map, pm.length_eq, zl]
      exact hz
    exact ⟨.ref _, upd H (s.heap.objs.size + 1) (.lst (((ds.zip ws).mergeSort (PySem.W.dataLe false fun b : D × V => pyOf b.1)).map (·.2))), I.laid (t' := s.toks) (fun _ _ => PyProof.Rows.sortedAll_old) (Nat.le_succ _) ⟨hlen', out, ep, each_vals eo, he'⟩, rfl, kt_lst h e t1 (fun a ha => f a (k3 a (t2 a ha))) (I.hok.fresh (Nat.le_succ _))⟩
theorem blt_ok (hc : X.calm = true) (hu : X.A.units + 66 < cLine) (b : Blt) : CallR X b.py.2 (rD X.K XW (bltop b)) := by
  intro pins s σ H vs us Q I rv h
  obtain ⟨FB, HB, F, S, ds, e, rs, f, h⟩ := h
  unfold bltop at h
  split at h
  · obtain ⟨x, rfl, r⟩ := reps_1 rs
    obtain ⟨a, ws, S', rfl, k1, k2, _⟩ := rep_lst e.in' r
    exact call_len_seq pins s σ H _ us Q I rv ⟨a, ws, rfl, .inl k1, by rw [reps_len k2]; exact kt_int h e⟩
  · obtain ⟨x, rfl, r⟩ := reps_1 rs
    obtain ⟨a, ws, rfl, k1, k2⟩ := rep_tup r
    exact call_len_seq pins s σ H _ us Q I rv ⟨a, ws, rfl, .inr k1, by rw [reps_len k2]; exact kt_int h e⟩
  · obtain ⟨x, rfl, r⟩ := reps_1 rs
    obtain ⟨rfl, _⟩ := rep_str r
    split at h
    · rename_i hz
      exact call_len_str pins s σ H _ us Q I rv ⟨_, rfl, hz, kt_int h e⟩
    · exact h.elim
  · obtain ⟨x, rfl, r⟩ := reps_1 rs
    obtain ⟨a, ws, S', rfl, k1, k2, _⟩ := rep_lst e.in' r
    split at h
    · rename_i ns hn
      rw [ints_reps hn k2] at k1
      refine cr_sortedI pins s σ H _ us Q I rv ⟨a, ns, rfl, k1, fun ns' p hp hs hq => ?_⟩
      rw [sorted_one (hp.trans (sortI_perm ns).symm) hs (sortI_sorted ns)]
      exact kt_lst h e (reps_ints _) .nil hq
    · split at h
      · rename_i ys hy
        split at h
        · rename_i ho
          exact sorted_ok hu I rv e r f hy ho h
        · exact h.elim
      · exact h.elim
  · obtain ⟨x, rfl, r⟩ := reps_1 rs
    obtain ⟨a, rfl, ps, ws, k1, k2, k3, wf⟩ := rep_dct e.in' r
    obtain ⟨w1, w2, w3⟩ := dwf_of wf
    split at h
    · rename_i ns hn
      split at h
      · rename_i h64
        have hk : ∀ (ks : List D) (us : List V) (ns : List Int), intsOf ks = some ns → us.length = ks.length → (kvI ks us).map (·.1) = ns.map Sum.inl := by
          intro ks
          induction ks with
          | nil => intro us ns h1 _; simp only [intsOf, Option.some.injEq] at h1; subst h1; rfl
          | cons k ks ih =>
            intro us ns h1 hl
            cases us with
            | nil => simp at hl
            | cons u us =>
              cases k <;> first | (simp [intsOf] at h1; done) | skip
              simp only [intsOf, Option.map_eq_some_iff] at h1
              obtain ⟨m, h1, rfl⟩ := h1
              simp [kvI, ih us m h1 (by simpa using hl)]
        refine call_sortedDI hc pins s σ H _ us Q I rv ⟨a, _, ns, rfl, .of (show H a = some (.dK (kvI _ ws)) from k1), hk _ ws ns hn (by rw [reps_len k3, w3]), h64, fun ns' p hp hs hq => ?_⟩
        rw [sorted_one (hp.trans (sortI_perm ns).symm) hs (sortI_sorted ns)]
        exact kt_lst h e (reps_ints _) .nil hq
      · exact h.elim
    · exact h.elim
  · obtain ⟨x, rfl, r⟩ := reps_1 rs
    obtain ⟨a, ws, S', rfl, k1, k2, k3⟩ := rep_lst e.in' r
    exact call_list_of pins s σ H _ us Q I rv ⟨a, ws, rfl, .inl k1, fun p hp => kt_lst h e k2 (fun c hc => f c (k3 c hc)) hp⟩
  · obtain ⟨x, rfl, r⟩ := reps_1 rs
    obtain ⟨a, ws, rfl, k1, k2⟩ := rep_tup r
    exact call_list_of pins s σ H _ us Q I rv ⟨a, ws, rfl, .inr k1, fun p hp => kt_lst h e k2 f hp⟩
  · obtain ⟨x, rfl, r⟩ := reps_1 rs
    obtain ⟨a, ws, S', rfl, k1, k2, k3⟩ := rep_lst e.in' r
    exact call_tuple_of pins s σ H _ us Q I rv ⟨a, ws, rfl, .inl ⟨k1, fun p hp => kt_tup h e k2 (fun c hc => f c (k3 c hc)) hp⟩⟩
  · obtain ⟨x, rfl, r⟩ := reps_1 rs
    obtain ⟨a, ws, rfl, k1, k2⟩ := rep_tup r
    exact call_tuple_of pins s σ H _ us Q I rv ⟨a, ws, rfl, .inr ⟨k1, h _ _ _ _ e r f⟩⟩
  · obtain ⟨x, rfl, r⟩ := reps_1 rs
    obtain ⟨rfl, _⟩ := rep_int r
    exact call_int1 pins s σ H _ us Q I rv (.inl ⟨_, rfl, kt_int h e⟩)
  · obtain ⟨x, rfl, r⟩ := reps_1 rs
    obtain ⟨rfl, _⟩ := rep_bl r
    exact call_int1 pins s σ H _ us Q I rv (.inr ⟨_, rfl, kt_int h e⟩)
  · obtain ⟨x, rfl, r⟩ := reps_1 rs
    obtain ⟨a, ws, S', rfl, k1, k2, _⟩ := rep_lst e.in' r
    split at h
    · rename_i n ns hn
      rw [ints_reps hn k2] at k1
      refine cr_min hc pins s σ H _ us Q I rv ⟨a, n :: ns, rfl, k1, by simp, fun m hm hl => ?_⟩
      have e1 := hl _ (minI_mem n ns)
      have e2 := minI_le n ns m hm
      rw [show m = minI (n :: ns) by omega]
      exact kt_int h e
    · exact h.elim
  · obtain ⟨x, rfl, r⟩ := reps_1 rs
    obtain ⟨a, ws, S', rfl, k1, k2, _⟩ := rep_lst e.in' r
    split at h
    · rename_i n ns hn
      rw [ints_reps hn k2] at k1
      refine cr_max hc pins s σ H _ us Q I rv ⟨a, n :: ns, rfl, k1, by simp, fun m hm hl => ?_⟩
      have e1 := hl _ (maxI_mem n ns)
      have e2 := maxI_le n ns m hm
      rw [show m = maxI (n :: ns) by omega]
      exact kt_int h e
    · exact h.elim
  · obtain ⟨x, y, S1, S2, rfl, r1, r2⟩ := reps_2 rs
    obtain ⟨rfl, _⟩ := rep_int r1
    obtain ⟨rfl, _⟩ := rep_int r2
    exact call_min2 hc pins s σ H _ us Q I rv ⟨_, _, rfl, kt_int h e⟩
  · obtain ⟨x, y, S1, S2, rfl, r1, r2⟩ := reps_2 rs
    obtain ⟨rfl, _⟩ := rep_int r1
    obtain ⟨rfl, _⟩ := rep_int r2
    exact call_max2 hc pins s σ H _ us Q I rv ⟨_, _, rfl, kt_int h e⟩
  · obtain ⟨x, rfl, r⟩ := reps_1 rs
    obtain ⟨rfl, _⟩ := rep_int r
    exact call_abs pins s σ H _ us Q I rv ⟨_, rfl, kt_int h e⟩
  · obtain ⟨x, rfl, r⟩ := reps_1 rs
    obtain ⟨a, ws, S', rfl, k1, k2, _⟩ := rep_lst e.in' r
    split at h
    · rename_i ns hn
      rw [bls_reps hn k2] at k1
      exact cr_all hc pins s σ H _ us Q I rv ⟨a, ns, rfl, k1, kt_bl h e⟩
    · exact h.elim
  · obtain ⟨x, rfl, r⟩ := reps_1 rs
    obtain ⟨rfl, _⟩ := rep_str r
    split at h
    · rename_i hz
      split at h
      · rename_i n hn
        exact call_int_str pins s σ H _ us Q I rv ⟨_, n, rfl, hn, hz, kt_int h e⟩
      · exact h.elim
    · exact h.elim
  · obtain ⟨x, rfl, r⟩ := reps_1 rs
    obtain ⟨rfl, _⟩ := rep_int r
    split at h
    · rename_i hz
      have hz2 : ∀ i : Int, i.natAbs < 18446744073709551616 → i.natAbs.log2 < 1920 := by
        intro i hz
        by_cases c : i.natAbs = 0
        · rw [c]; decide
        · have := (Nat.log2_lt c (k := 64)).mpr (by omega)
          omega
      exact call_str_int pins s σ H _ us Q I rv ⟨_, rfl, hz2 _ hz, kt_str h e⟩
    · exact h.elim
  · exact h.elim
/-- the built-in's name is free and is the built-in -/
theorem Blt.boot (b : Blt) : bootBuiltins b.py.1 = some b.py.2 := by cases b <;> first | rfl | decide +kernel
theorem Blt.un (b : Blt) : b.py.1 ≠ "__name__" ∧ (b.py.1 == ("__debug__" : Str)) = false := by cases b <;> exact ⟨by decide, by decide⟩

/-- isinstance(x, T) -/
theorem isop_ok {FB HB F H : Hp} {a : D} {t : Ty} {x : V} {Q : VK} (o : One X.K FB HB F H a x) (h : Kt X.K XW FB HB (isop a t) Q) : rIsi X.K [x, .ty t.name] H Q := by
  obtain ⟨S, e, r, f⟩ := o
  unfold isop at h
  split at h
  · obtain ⟨rfl, _⟩ := rep_bl r
    refine ⟨_, _, .type "bool", .type t.name, _, rfl, .ty _, .base (.bl _), ?_, kt_bl h e⟩
    cases t <;> exact kit_ty (by decide +kernel)
  · obtain ⟨rfl, _⟩ := rep_int r
    refine ⟨_, _, .type "int", .type t.name, _, rfl, .ty _, .base (.int _), ?_, kt_bl h e⟩
    cases t <;> exact kit_ty (by decide +kernel)
  · obtain ⟨rfl, _⟩ := rep_str r
    refine ⟨_, _, .type "str", .type t.name, _, rfl, .ty _, .base (.str _), ?_, kt_bl h e⟩
    cases t <;> exact kit_ty (by decide +kernel)
  · obtain ⟨rfl, _⟩ := rep_non r
    refine ⟨_, _, .type "NoneType", .type t.name, _, rfl, .ty _, .base .non, ?_, kt_bl h e⟩
    cases t <;> exact kit_ty (by decide +kernel)
  · obtain ⟨p, ws, rfl, k1, k2⟩ := rep_tup r
    refine ⟨_, _, .type "tuple", .type t.name, _, rfl, .ty _, ?_, ?_, kt_bl h e⟩
    · rcases k1 with (k1 | ⟨o, k1⟩) | ⟨o, its, n, k1, k3, _⟩
      · exact .base (.tup k1)
      · exact .fTuple k1
      · exact .kTuple k1 k3
    · cases t <;> exact kit_ty (by decide +kernel)
  · obtain ⟨p, ws, S', rfl, k1, k2, _⟩ := rep_trk e.in' (by decide) r
    refine ⟨_, _, .type "list", .type t.name, _, rfl, .ty _, .base (.lst k1), ?_, kt_bl h e⟩
    cases t <;> exact kit_ty (by decide +kernel)
  · obtain ⟨p, ws, S', rfl, k1, k2, _⟩ := rep_trk e.in' (by decide) r
    refine ⟨_, _, .type "list", .type t.name, _, rfl, .ty _, .base (.lst k1), ?_, kt_bl h e⟩
    cases t <;> exact kit_ty (by decide +kernel)
  · exact h.elim
end
end Mn

/-! MnBe: exceptions as values: caught and kept, asked for their class. -/
namespace Mn
open PySem PySem.Spec L2
open PyProof.Rows hiding St

/-- an own exception's facts -/
structure ExF (K : PySem.W.Frag) (mg : Str → Option Value) (x : Str) : Prop where
  ex : ∃ C, mg x = some (.ref C) ∧ PySem.W.excIn K C He.veBase "ValueError.__new__" = true ∧ PySem.W.keepIn K (.ref C) = true ∧ PySem.W.subIn K (.ref C) (.type "BaseException") = some true ∧ PySem.W.typeIn K (.ref C) = some (.type "type")
  nd : (x == ("__debug__" : Str)) = false
/-- what must be known of the program's exceptions -/
def exB1 (K : PySem.W.Frag) (D : Addr) : Bool := He.eqO (PySem.W.findIn K (.ref D) "__getattribute__") (some (some (.builtin "BaseException.__getattribute__"))) && (He.eqO (PySem.W.findIn K (.ref D) "__getattr__") (some none) &&
  (decide (PySem.W.subIn K (.ref D) (.type "BaseException") = some true) && (PySem.W.hasDictIn K D && (He.eqO (PySem.W.findIn K (.ref D) "__class__") (some (some (.builtin "object.__class__"))) &&
  (He.eqO (PySem.W.specialIn K (.builtin "object.__class__") "__get__") (some (some (.builtin "getset_descriptor.__get__"))) && (decide (PySem.W.takesIn K (.builtin "object.__class__") = some true) && decide (PySem.W.mroIn K D (.type "object") = some true)))))))
theorem exB1_ok {K : PySem.W.Frag} {D : Addr} (h : exB1 K D = true) : ExcC K D := by
  obtain ⟨h1, h⟩ := He.ba h
  obtain ⟨h2, h⟩ := He.ba h
  obtain ⟨h3, h⟩ := He.ba h
  obtain ⟨h4, h⟩ := He.ba h
  obtain ⟨h5, h⟩ := He.ba h
  obtain ⟨h6, h⟩ := He.ba h
  obtain ⟨h7, h8⟩ := He.ba h
  exact ⟨He.eqO_ok h1, He.eqO_ok h2, of_decide_eq_true h3, h4, He.eqO_ok h5, He.eqO_ok h6, of_decide_eq_true h7, of_decide_eq_true h8⟩
def exB (K : PySem.W.Frag) : Bool := (He.Fa.glo "TurnError").ok K && exNames.all fun c => (He.Fa.glo c).ok K && (exB1 K (He.ga K c) && (decide (PySem.W.exmOne K (.ref (He.ga K c)) (.ref (He.ga K "TurnError")) = some true) &&
  (decide (PySem.W.kitOne K (.ref (He.ga K c)) (.type "ValueError") = some true) && (("TurnError" : Str) :: exNames).all fun x => decide (PySem.W.kitOne K (.ref (He.ga K c)) (.ref (He.ga K x)) = some (isE c x)))))
structure ExK (K : PySem.W.Frag) (mg : Str → Option Value) : Prop where
  te : mg "TurnError" = some (.ref (He.ga K "TurnError"))
  nm : ∀ c, c ∈ exNames → mg c = some (.ref (He.ga K c))
  cl : ∀ c, c ∈ exNames → ExcC K (He.ga K c)
  exm : ∀ c, c ∈ exNames → PySem.W.exmOne K (.ref (He.ga K c)) (.ref (He.ga K "TurnError")) = some true
  kiv : ∀ c, c ∈ exNames → PySem.W.kitOne K (.ref (He.ga K c)) (.type "ValueError") = some true
  kit : ∀ c, c ∈ exNames → ∀ x, x ∈ ("TurnError" : Str) :: exNames → PySem.W.kitOne K (.ref (He.ga K c)) (.ref (He.ga K x)) = some (isE c x)
theorem exK_of {K : PySem.W.Frag} {h : Heap} {mg : Str → Option Value} (X : K.In h) (G : h.Ns mainGlobals mg) (e : exB K = true) : ExK K mg := by
  obtain ⟨e1, e2⟩ := He.ba e
  rw [List.all_eq_true] at e2
  have one : ∀ c, c ∈ exNames → (He.Fa.glo c).ok K = true ∧ exB1 K (He.ga K c) = true ∧ PySem.W.exmOne K (.ref (He.ga K c)) (.ref (He.ga K "TurnError")) = some true ∧ PySem.W.kitOne K (.ref (He.ga K c)) (.type "ValueError") = some true ∧
      ∀ x, x ∈ ("TurnError" : Str) :: exNames → PySem.W.kitOne K (.ref (He.ga K c)) (.ref (He.ga K x)) = some (isE c x) := fun c hc => by
    obtain ⟨a1, a⟩ := He.ba (e2 c hc)
    obtain ⟨a2, a⟩ := He.ba a
    obtain ⟨a3, a⟩ := He.ba a
    obtain ⟨a4, a5⟩ := He.ba a
    rw [List.all_eq_true] at a5
    exact ⟨a1, a2, of_decide_eq_true a3, of_decide_eq_true a4, fun x hx => of_decide_eq_true (a5 x hx)⟩
  exact ⟨He.glo_ok X G e1, fun c hc => He.glo_ok X G (one c hc).1, fun c hc => exB1_ok (one c hc).2.1, fun c hc => (one c hc).2.2.1, fun c hc => (one c hc).2.2.2.1, fun c hc => (one c hc).2.2.2.2⟩

/-- isinstance(e, c), e kept -/
def rIsV (K : PySem.W.Frag) : List V → Hp → VK → Prop := fun xs H Q => ∃ (a D : Addr) (c : V) (cv : Value) (b : Bool), xs = [.ref a, c] ∧ H a = some (ExV (.ref D) a) ∧ ExcC K D ∧ (∀ u, RelV c u → u = cv) ∧ PySem.W.kitOne K (.ref D) cv = some b ∧ Q (.bl b) H
theorem call_isV {X : Cx} : CallR X (.builtin "isinstance") (rIsV X.K) := by
  intro pins s σ H xs us Q I r h
  obtain ⟨a, D, c, cv, b, rfl, ha, C, hcv, e, q⟩ := h
  cases r with
  | cons rx rr =>
    cases rr with
    | cons rt rr =>
      cases rr
      cases rx
      have ec := hcv _ rt
      subst ec
      obtain ⟨⟨oe, vs, hget, hz, hv⟩, _, _⟩ := I.hok a _ ha
      have J : PySem.W.InstAt s.heap a oe D none := by
        obtain ⟨oc, od, oda, osl⟩ := oe
        obtain ⟨h1, h2⟩ := hz
        dsimp only at h1 h2 hv
        subst h1 h2 hv
        exact ⟨hget, rfl, rfl, trivial⟩
      exact PySem.W.kia_one (PySem.W.handS_kitx_exc C.hg C.hk C.hs C.hd C.ha C.hn C.ht C.hm) I.kIn J e (fun z => nomatch z) fun tk => ⟨.bl b, H, I.kept (t' := tk) fun _ _ z => z, rfl, q⟩

/-! ### try: body, except TurnError as n: suite, the exception kept -/
section
variable {X : Cx} {pins : List (Addr × Obj)} {σ : St} {H : Hp} {s : Shared}
theorem exV_ok {P : Program} {w : World} {h : Heap} {a : Addr} {cls : Value} {oe : Obj} {vs : Array Value} (e : h.get? a = some oe) (z : Zc cls none oe) (d : oe.data = .fields vs) : ObjOk P w H h a (ExV cls a) :=
  ⟨⟨oe, vs, e, z, d⟩, ⟨oe, e⟩, fun _ _ ⟨o, v, q, r⟩ k => ⟨o, v, k o q, r⟩⟩
/-- an exception's object is tracked from now on -/
theorem trackX {a : Addr} {cls : Value} {oe : Obj} {vs : Array Value} (I : Inv X pins σ H s) (he : s.heap.get? a = some oe) (hz : Zc cls none oe) (hd : oe.data = .fields vs) (na : H a = none) (n0 : X.s_0.heap.get? a = none) (nL : a ≠ X.env.locals)
    (np : ∀ p, p ∈ X.pn ++ pins → p.1 ≠ a) : Inv X pins σ (upd H a (ExV cls a)) s := by
  have ne0 : ∀ b o, X.s_0.heap.get? b = some o → b ≠ a := fun b o e z => by rw [z, n0] at e; cases e
  have neH : ∀ b o, H b = some o → b ≠ a := fun b o e z => by rw [z, na] at e; cases e
  have neC : ∀ x c, X.env.cells.lookup x = some c → c ≠ a := fun x c e z => by
    obtain ⟨v, o, ho, hd'⟩ := I.cell x c e
    rw [z, he] at ho
    cases ho
    rw [hd] at hd'
    cases hd'
  refine ⟨I.ok, I.os, I.bare, ⟨I.base.keep, I.base.slot, fun b o e n hx => ?_, I.base.there, fun b xs e => ?_, fun b o u e => ?_, fun b ps e => ?_⟩, I.loc, I.cell, ?_, fun x c e => ?_, fun p hp => ?_, ?_, I.len⟩
  · rw [upd_ne (ne0 b o e)]
    exact I.base.free b o e n hx
  · have q := I.base.tups b xs e
    rw [upd_ne (neH b _ q)]
    exact q
  · have q := I.base.frzs b o u e
    rw [upd_ne (neH b _ q)]
    exact q
  · obtain ⟨m, q⟩ := I.base.tbls b ps e
    exact ⟨m, by rw [upd_ne (neH b _ q)]; exact q⟩
  · rw [upd_ne (Ne.symm nL)]
    exact I.free
  · rw [upd_ne (neC x c e)]
    exact I.freeC x c e
  · obtain ⟨e, n, ne, nf, d⟩ := I.pin p hp
    exact ⟨e, by rw [upd_ne (np p hp)]; exact n, ne, nf, d⟩
  · exact I.hok.laidN (fun _ _ q => q) na (exV_ok he hz hd)
theorem suiteX {a : Addr} (I : Inv X pins σ H s) : Inv (X.suite a (X.pn ++ pins)) [] σ H s :=
  ⟨I.ok.suite _ _, I.os, I.bare, I.base, I.loc, I.cell, I.free, I.freeC, fun p hp => I.pin p (by rw [List.append_nil] at hp; exact hp), I.hok, I.len⟩
theorem unsuiteX {a : Addr} {pn' : List (Addr × Obj)} (I : Inv (X.suite a (X.pn ++ pins)) pn' σ H s) (ok : X.Ok) : Inv X pins σ H s :=
  ⟨ok, I.os, I.bare, I.base, I.loc, I.cell, I.free, I.freeC, fun p hp => I.pin p (List.mem_append_left _ hp), I.hok, I.len⟩
end
/-- what the clause wishes of an exception of the body: it is one of c's, and is kept -/
def wV (K : PySem.W.Frag) (c : Value) (i : Nat) (ts : Addr → TS) (D : Ends) : WX := fun cls d σ H =>
  d = none ∧ PySem.W.exmOne K cls c = some true ∧ ∀ a, H a = none → ts a { nx := fun σ' H' => D.nx (σ'.set i none) H', rt := D.rt, bk := fun σ' H' => D.bk (σ'.set i none) H', ct := fun σ' H' => D.ct (σ'.set i none) H' } (σ.set i (some (.ref a))) (upd H a (ExV cls a))
section
variable {X : Cx} {x n : Str} {c : Value} {i : Nat} {body suite : List Stmt} {b₀ : Stmt} {np pos pos' : Pos} {tb : WX → TS} {ts : Addr → TS}
theorem ps_try_v (hs : X.stack = X.env :: X.outer) (hf : X.env.frame = some X.env.locals) (hex : X.ex = []) (hN : X.N.Nodup) (hi : X.N[i]? = some n) (hln : X.env.kindOf n = some .local) (hc : Names X x c)
    (hb : ∀ (W : WX) (pn : List (Addr × Obj)) (xe : Value → Shared → Prop), Takes (X.tr pn xe) W → PassesOwn (model X.prog X.w) X.A X.env xe → PSs (X.tr pn xe) body (tb W))
    (hsu : ∀ (a : Addr) (pn : List (Addr × Obj)), PSs (X.suite a pn) (b₀ :: suite) (ts a)) :
    PS X (.Try body [.ExceptHandler (some (.Name x np)) (some n) (b₀ :: suite) pos'] [] [] pos) (fun D σ H => tb (wV X.K c i ts D) D σ H) := by
  refine ⟨fun pins s σ H D I h => ?_⟩
  have ok := I.ok
  have hfr : X.A.frames = some (X.env :: X.outer) := by rw [ok.frames, hs]
  have hloc : Loc X.env.scope n := .inl hln
  refine wpAny_Try_except ?_
  refine wpAny_mono ((hb (wV X.K c i ts D) (X.pn ++ pins) (fun e s₁ => wpAny (model X.prog X.w) X.A (noteFrame e X.env) (fun _ s₂ => wpAny (model X.prog X.w) X.A (setFlight e none) (fun _ s₃ =>
    wpAny (model X.prog X.w) X.A (handleBy e X.env [.ExceptHandler (some (.Name x np)) (some n) (b₀ :: suite) pos']) (SP X pins D) X.xe s₃) X.xe s₂) X.xe s₁) (fun u s' xx => ?_) PassesOwn.looking).run [] s σ H D (I.toTry _) h) (fun f s1 hsp => ?_) (fun e s1 he => he)
  · -- the catch
    obtain ⟨a, B, sI, pins', σ', H', cls, d, rfl, J', nb, up, sky, na, os, ag, rfl, hb1, hyes⟩ := xx
    have J : Inv X pins σ' H' sI := J'.ofTry ok
    have sky' : Sky B (X.env :: X.outer) a (Zc cls none) X.env.locals s'.heap := by rw [← hs]; exact sky
    show wpAny (model X.prog X.w) X.A (noteFrame (.ref a) X.env) _ _ _
    refine Sky.land Zc.steady hfr hf sky' fun h3 fl3 up3 => ?_
    have J3 : Inv X pins σ' H' { s' with heap := h3 } := J.landed nb fl3.1 (up.trans up3) os ag
    obtain ⟨oe3, vs3, he3, hz3, hd3⟩ := fl3.there
    have notFr : ∀ {h : Heap} {o : Obj} {vs : Array Value}, h.FunFrames B (X.env :: X.outer) → h.get? a = some o → o.data = .fields vs → a ∉ frs (X.env :: X.outer) := fun {h o vs} ff e dd hm => by
      obtain ⟨_, o', e', hnf⟩ := ff.mem hm
      rw [e] at e'; cases e'
      exact hnf _ dd
    have nfr := notFr fl3.2.2.1 he3 hd3
    have nL : a ≠ X.env.locals := fun z => nfr (List.mem_filterMap.mpr ⟨X.env, List.mem_cons_self, by rw [hf, z]⟩)
    have nF : a ∉ X.fs := fun hm => by
      obtain ⟨e, he, q⟩ := List.mem_filterMap.mp hm
      exact nfr (List.mem_filterMap.mpr ⟨e, List.mem_cons_of_mem _ he, q⟩)
    have nI : sI.heap.get? a = none := by
      cases e : sI.heap.get? a with
      | none => rfl
      | some o =>
        have z := nb a o e (by rw [hs]; exact nfr)
        rw [fl3.2.1] at z
        cases z
    have n0 : X.s_0.heap.get? a = none := by
      cases e : X.s_0.heap.get? a with
      | none => rfl
      | some o =>
        obtain ⟨o', z⟩ := J.base.there a o e (by rw [hex]; exact fun z => (List.not_mem_nil z).elim)
        rw [nI] at z
        cases z
    have npin : ∀ p, p ∈ X.pn ++ pins → p.1 ≠ a := fun p hp z => by
      obtain ⟨e, _⟩ := J.pin p hp
      rw [z, nI] at e
      cases e
    have S3 := J3.suite he3 hd3 na nL nF
    refine wpAny_handleBy_cons (codeAny_handlers_test ?_) (by intro q; cases q)
    have LT : PySem.W.Looks (model X.prog X.w) h3 (typeOf (.ref a)) cls := fun A Q E s k q => wpAny_typeOf_ref (k _ _ he3) (by rw [hz3.1]; exact q)
    have LM := PySem.W.exm_one (M := model X.prog X.w) (J3.kIn) LT hb1
    have test : ∀ {Q : Value → Shared → Prop} {E : Value → Shared → Prop}, Q c { s' with heap := h3 } → wpAny (model X.prog X.w) (X.A.mark (some (.ref a))) (eval (.Name x np) X.env) Q E { s' with heap := h3 } := fun {Q E} q => by
      obtain ⟨hg, hdbg, hm | ⟨hm, hv, hnn⟩⟩ := hc
      · exact ld_glob (X := X.suite a ((a, oe3) :: (X.pn ++ pins))) S3 hg hm q hdbg
      · exact ld_blt (X := X.suite a ((a, oe3) :: (X.pn ++ pins))) S3 hg hm hv q hnn hdbg
    refine test (LM.here ?_)
    refine codeAny_handlers_suite_as ?_
    refine HandSPX.lands_againZ fl3 fun h4 fl4 up4 => ?_
    have J4 : Inv X pins σ' H' { s' with heap := h4 } := J.landed nb fl4.1 ((up.trans up3).trans up4) os ag
    obtain ⟨oe4, vs4, he4, hz4, hd4⟩ := fl4.there
    have J5 := trackX J4 he4 hz4 hd4 na n0 nL npin
    have S4 := suiteX (a := a) J5
    refine store_ok (X := X.suite a (X.pn ++ pins)) (v := .ref a) S4 hN hi hloc rfl (fun s5 S5 => ?_) (.inr hln)
    refine wpAny_mono ((hsu a (X.pn ++ pins)).run [] s5 _ _ _ S5 (hyes a na)) (fun f s6 hsp => ?_) (fun _ _ z => False.elim z)
    have end_ : ∀ {σ6 : St} {H6 : Hp} {Q : Shared → Prop}, Inv (X.suite a (X.pn ++ pins)) [] σ6 H6 s6 → (∀ s7, Inv X pins (σ6.set i none) H6 s7 → Q s7) →
        wpAny (model X.prog X.w) X.A (do bindName X.env n .none; unbindBehindTheSuite X.env n pos') (fun _ s7 => Q s7) X.xe s6 := fun {σ6 H6 Q} S6 hq => gone_ok (unsuiteX S6 ok) hN hi hln hq
    cases f with
    | next =>
      obtain ⟨σ6, H6, S6, q6⟩ := hsp
      exact end_ S6 fun s7 J7 => ⟨_, _, J7, q6⟩
    | brk =>
      obtain ⟨σ6, H6, S6, q6⟩ := hsp
      exact end_ S6 fun s7 J7 => ⟨_, _, J7, q6⟩
    | cont =>
      obtain ⟨σ6, H6, S6, q6⟩ := hsp
      exact end_ S6 fun s7 J7 => ⟨_, _, J7, q6⟩
    | ret u =>
      obtain ⟨v6, σ6, H6, S6, r6, q6⟩ := hsp
      exact end_ S6 fun s7 J7 => ⟨_, _, _, J7, r6, q6⟩
  · cases f with
    | next =>
      obtain ⟨σ', H', J', q⟩ := hsp
      exact wpAny_execs_nil ⟨σ', H', J'.ofTry ok, q⟩
    | brk =>
      obtain ⟨σ', H', J', q⟩ := hsp
      exact ⟨σ', H', J'.ofTry ok, q⟩
    | cont =>
      obtain ⟨σ', H', J', q⟩ := hsp
      exact ⟨σ', H', J'.ofTry ok, q⟩
    | ret u =>
      obtain ⟨v, σ', H', J', r, q⟩ := hsp
      exact ⟨v, σ', H', J'.ofTry ok, r, q⟩
end
end Mn

/-! MnD: expressions: the look (mt) and that an expression answers as the evaluator does. -/
namespace Mn
open PySem PySem.Spec L2
open PyProof.Rows hiding St

inductive Wh where
  | ex (e : Expr) | es (l : List Expr) | it (tg e : Expr)
/-- the def's names by slot; the defs that may be called; the module's constants -/
structure Tab where
  N : List Str
  fns : List (Str × Nat)
  gls : List Str
  excs : List Str := []
  ex : Bool := false

def visB (sc : Scope) (x : Str) : Bool := match sc.names.lookup x with
  | some .local => true
  | some .cell => true
  | some .free => true
  | _ => false
def locB (sc : Scope) (x : Str) : Bool := match sc.names.lookup x with
  | some .local => true
  | some .cell => true
  | _ => false
def glB (sc : Scope) (x : Str) : Bool := match sc.names.lookup x with
  | some .globalImplicit => true
  | _ => false
def okNm (x : Str) : Bool := !(x == ("__debug__" : Str)) && !(x == ("__classdict__" : Str))
/-- what a method's receiver may be -/
def baseB : Expr → Bool
  | .Call _ _ _ _ => false
  | _ => true
def notStar : Expr → Bool
  | .Starred _ _ => false
  | _ => true
def plainB : Expr → Bool
  | .Slice _ _ _ _ => false
  | .Tuple _ _ _ => true
  | _ => true
def Tg.len : Tg → Nat
  | .cons _ ts => ts.len + 1
  | .nil => 0
  | _ => 1
def Tg.slots : Tg → List Nat
  | .nm i => [i]
  | .tup ts => ts.slots
  | .nil => []
  | .cons t ts => t.slots ++ ts.slots

def mtg (T : Tab) (sc : Scope) : Tg → Expr ⊕ List Expr → Bool
  | .nm i, .inl (.Name x _) => decide (T.N[i]? = some x) && locB sc x
  | .tup ts, .inl (.Tuple es _ _) => mtg T sc ts (.inr es) && decide (es.length = ts.len)
  | .nil, .inr [] => true
  | .cons t ts, .inr (e :: es) => mtg T sc t (.inl e) && mtg T sc ts (.inr es)
  | _, _ => false

def isTupE : Expr → Bool
  | .Tuple _ _ _ => true
  | _ => false
def Ik.nm : Ik → Str × Nat
  | .range1 => ("range", 1)
  | .range2 => ("range", 2)
  | .range3 => ("range", 3)
  | .enum => ("enumerate", 1)
  | .zip => ("zip", 2)
def Ik.needT : Ik → Bool
  | .enum => true
  | .zip => true
  | _ => false
def condB : M → Bool
  | .yes => true
  | _ => false

def mt (T : Tab) : M → Scope → Wh → Bool
  | .slot i, sc, .ex (.Name x _) => decide (T.N[i]? = some x) && visB sc x && okNm x
  | .glob y, sc, .ex (.Name x _) => decide (x = y) && decide (y ∈ T.gls) && glB sc x && okNm x
  | .int i, _, .ex (.Constant (.int j) _ _) => decide (i = j)
  | .str i, _, .ex (.Constant (.str j) _ _) => decide (i = j)
  | .bl i, _, .ex (.Constant (.bool j) _ _) => decide (i = j)
  | .non, _, .ex (.Constant .none _ _) => true
  | .bin op a b, sc, .ex (.BinOp x o y _) => decide (op.py = o) && mt T a sc (.ex x) && mt T b sc (.ex y)
  | .neg a, sc, .ex (.UnaryOp .USub x _) => mt T a sc (.ex x)
  | .cmp op a b, sc, .ex (.Compare x [o] [y] _) => decide (op.py = o) && !(behindInMarks o y) && mt T a sc (.ex x) && mt T b sc (.ex y)
  | .chain o1 o2 a b c, sc, .ex (.Compare x [p1, p2] [y, z] _) => decide (o1.py = p1) && decide (o2.py = p2) && !(lastMarks [p1, p2] [y, z]) && mt T a sc (.ex x) && mt T b sc (.ex y) && mt T c sc (.ex z)
  | .not a, sc, .ex (.UnaryOp .Not x _) => mt T a sc (.ex x)
  | .and a b, sc, .ex (.BoolOp .And (x :: y :: r) p) => mt T a sc (.ex x) && (match r with
    | [] => mt T b sc (.ex y)
    | _ => mt T b sc (.ex (.BoolOp .And (y :: r) p)))
  | .or a b, sc, .ex (.BoolOp .Or (x :: y :: r) p) => mt T a sc (.ex x) && (match r with
    | [] => mt T b sc (.ex y)
    | _ => mt T b sc (.ex (.BoolOp .Or (y :: r) p)))
  | .nil, _, .es [] => true
  | .cons a as, sc, .es (e :: es) => notStar e && mt T a sc (.ex e) && mt T as sc (.es es)
  | .tup es, sc, .ex (.Tuple xs _ _) => mt T es sc (.es xs)
  | .list es, sc, .ex (.List xs _) => mt T es sc (.es xs)
  | .sub a i, sc, .ex (.Subscript x y _) => plainB y && mt T a sc (.ex x) && mt T i sc (.ex y)
  | .slice a lo hi, sc, .ex (.Subscript x (.Slice l h none _) _) => mt T a sc (.ex x) && (match l with
    | none => lo.isNil
    | some e => !lo.isNil && mt T lo sc (.ex e)) && (match h with
    | none => hi.isNil
    | some e => !hi.isNil && mt T hi sc (.ex e))
  | .rev a, sc, .ex (.Subscript x (.Slice none none (some (.UnaryOp .USub (.Constant (.int j) _ _) _)) _) _) => decide (j = 1) && mt T a sc (.ex x)
  | .call f es, sc, .ex (.Call (.Name x _) (e :: l) [] _) => decide (x = f) && decide ((f, l.length + 1) ∈ T.fns) && glB sc x && okNm x && mt T es sc (.es (e :: l))
  | .blt b es, sc, .ex (.Call (.Name x _) (e :: l) [] _) => decide (x = b.py.1) && glB sc x && mt T es sc (.es (e :: l))
  | .isi a t, sc, .ex (.Call (.Name x _) [e, .Name y _] [] _) => decide (x = "isinstance") && glB sc x && decide (y = Str.ofString t.name) && glB sc y && notStar e && mt T a sc (.ex e)
  | .lenset a, sc, .ex (.Call (.Name x _) [.Call (.Name y _) [e] [] _] [] _) => decide (x = "len") && glB sc x && decide (y = "set") && glB sc y && notStar e && mt T a sc (.ex e)
  | .it k es, sc, .it tg (.Call (.Name x _) l [] _) => decide (x = k.nm.1) && glB sc x && decide (l.length = k.nm.2) && (!k.needT || isTupE tg) && mt T es sc (.es l)
  | .its a, sc, .it _ e => mt T a sc (.ex e)
  | .chain3 o1 o2 o3 a b c d, sc, .ex (.Compare x [p1, p2, p3] [y, z, w] _) => decide (o1.py = p1) && decide (o2.py = p2) && decide (o3.py = p3) && !(lastMarks [p1, p2, p3] [y, z, w]) && mt T a sc (.ex x) && mt T b sc (.ex y) && mt T c sc (.ex z) && mt T d sc (.ex w)
  | .isx a t, sc, .ex (.Call (.Name x _) [e, .Name y _] [] _) => decide (x = "isinstance") && glB sc x && decide (y = t) && glB sc y && okNm y && notStar e && T.ex && decide (t ∈ ("ValueError" : Str) :: ("TurnError" : Str) :: exNames) && mt T a sc (.ex e)
  | .dnew _, _, .ex (.Dict [] [] _) => true
  | .dis1 _ k v, sc, .ex (.Dict [some a] [b] _) => mt T k sc (.ex a) && mt T v sc (.ex b)
  | .dis2 k v l u, sc, .ex (.Dict [some a, some c] [b, d] _) => mt T k sc (.ex a) && mt T v sc (.ex b) && mt T l sc (.ex c) && mt T u sc (.ex d)
  | .get o k x, sc, .ex (.Call (.Attribute e nm ap) [a, b] [] cp) => decide (nm = "get") && (ap.endLine == cp.line) && baseB e && notStar a && notStar b && mt T o sc (.ex e) && mt T k sc (.ex a) && mt T x sc (.ex b)
  | .cnt o x, sc, .ex (.Call (.Attribute e nm ap) [a] [] cp) => decide (nm = "count") && (ap.endLine == cp.line) && baseB e && notStar a && mt T o sc (.ex e) && mt T x sc (.ex a)
  | .idx o x, sc, .ex (.Call (.Attribute e nm ap) [a] [] cp) => decide (nm = "index") && (ap.endLine == cp.line) && baseB e && notStar a && mt T o sc (.ex e) && mt T x sc (.ex a)
  | .split o x, sc, .ex (.Call (.Attribute e nm ap) [a] [] cp) => decide (nm = "split") && (ap.endLine == cp.line) && baseB e && notStar a && mt T o sc (.ex e) && mt T x sc (.ex a)
  | .join o x, sc, .ex (.Call (.Attribute e nm ap) [a] [] cp) => decide (nm = "join") && (ap.endLine == cp.line) && baseB e && notStar a && mt T o sc (.ex e) && mt T x sc (.ex a)
  | .lrange1 a, sc, .ex (.Call (.Name x _) [.Call (.Name y _) [e] [] _] [] _) => decide (x = "list") && glB sc x && decide (y = "range") && glB sc y && notStar e && mt T a sc (.ex e)
  | .lrange2 a b, sc, .ex (.Call (.Name x _) [.Call (.Name y _) [e, f] [] _] [] _) => decide (x = "list") && glB sc x && decide (y = "range") && glB sc y && notStar e && notStar f && mt T a sc (.ex e) && mt T b sc (.ex f)
  | .comp elt tg iter cond own, sc, .ex (.ListComp e [⟨t, i, ifs, k⟩] scope _) => decide (k = 0) && blkC T.N sc scope own && mtg T scope tg (.inl t) && tg.slots.all (fun j => decide (j ∈ own.map (·.2))) && mt T iter sc (.it t i) &&
      mt T elt scope (.ex e) && (match ifs with
    | [] => condB cond
    | [c] => !condB cond && mt T cond scope (.ex c)
    | _ => false)
  | _, _, _ => false

/-- the slots that are read -/
def M.uses : M → List Nat
  | .slot i => [i]
  | .bin _ a b => a.uses ++ b.uses
  | .neg a => a.uses
  | .cmp _ a b => a.uses ++ b.uses
  | .chain _ _ a b c => a.uses ++ (b.uses ++ c.uses)
  | .not a => a.uses
  | .and a b => a.uses ++ b.uses
  | .or a b => a.uses ++ b.uses
  | .cons a b => a.uses ++ b.uses
  | .tup a => a.uses
  | .list a => a.uses
  | .sub a b => a.uses ++ b.uses
  | .slice a b c => a.uses ++ (b.uses ++ c.uses)
  | .rev a => a.uses
  | .call _ a => a.uses
  | .blt _ a => a.uses
  | .isi a _ => a.uses
  | .lenset a => a.uses
  | .it _ a => a.uses
  | .its a => a.uses
  | .comp elt _ iter cond _ => iter.uses ++ (elt.uses ++ cond.uses)
  | .chain3 _ _ _ a b c d => a.uses ++ (b.uses ++ (c.uses ++ d.uses))
  | .isx a _ => a.uses
  | .dis1 _ a b => a.uses ++ b.uses
  | .dis2 a b c d => a.uses ++ (b.uses ++ (c.uses ++ d.uses))
  | .get a b c => a.uses ++ (b.uses ++ c.uses)
  | .cnt a b => a.uses ++ b.uses
  | .idx a b => a.uses ++ b.uses
  | .split a b => a.uses ++ b.uses
  | .join a b => a.uses ++ b.uses
  | .lrange1 a => a.uses
  | .lrange2 a b => a.uses ++ b.uses
  | _ => []

/-- names of the built-ins that a text may use -/
def bltNames : List Str := ["len", "set", "sorted", "list", "tuple", "int", "str", "bool", "min", "max", "abs", "all", "isinstance", "range", "enumerate", "zip", "ValueError"]

/-- what is wanted of an exception: its class's name, the slots and the heap where it was raised -/
abbrev XWs := Str → St → Hp → Prop
/-- a def's promise: it answers as Φf does -/
def spD (K : PySem.W.Frag) (mg : Str → Option Value) (n : Nat) (Φf : List D → R D) : Sp := fun vs H Q E => vs.length = n ∧ ∃ F ds, Same F H ∧ Reps K F H ds vs [] ∧ Kt K (fun c H' => ∃ C, mg c = some (.ref C) ∧ E (.ref C) none H') F H (Φf ds) Q
def CallOk (P : Program) (w : World) (K : PySem.W.Frag) (mg : Str → Option Value) (base : Heap) (A : Around) (f : Str) (n : Nat) (Φf : List D → R D) : Prop :=
  ∃ a fd k ps, mg f = some (.ref a) ∧ PySem.W.keepIn K (.ref a) = true ∧ FnOk P w K mg base (L2.CX P w) k a fd ps (spD K mg n Φf) ∧ Room k A ∧ Binds K fd ps []
/-- how an exception leaves, by its class's name -/
def wishE (mg : Str → Option Value) (XW : XWt) : XK := fun v d H' => d = none ∧ ∃ c C, v = .ref C ∧ mg c = some (.ref C) ∧ XW c H'

/-- the context in which the text runs -/
structure Cok (T : Tab) (Φ : Fn) (γ : Gn) (XW : XWs) (sc : Scope) (X : Cx) : Prop where
  calm : X.calm = true
  nN : X.N = T.N
  nd : X.N.Nodup
  keep : ∀ x k, sc.names.lookup x = some k → k ≠ .free → X.env.scope.names.lookup x = some k
  free : ∀ x, sc.names.lookup x = some .free → X.env.scope.names.lookup x = some .free ∨ X.env.scope.names.lookup x = some .cell
  cell : ∀ x, sc.names.lookup x = some .cell → X.fn x = true
  units : X.A.units + 66 < cLine
  bl : ∀ x, x ∈ bltNames → X.mg x = none
  call : ∀ f n, (f, n) ∈ T.fns → CallOk X.prog X.w X.K X.mg X.base X.A f n (Φ f)
  pass : ∀ (pins : List (Addr × Obj)) (σ : St) (H : Hp) (s : Shared) (e : Value) (s' : Shared), Inv X pins σ H s → L2.CX X.prog X.w X.stack H s (wishE X.mg fun c => XW c σ) e s' → X.xe e s'
  cls : ∀ c σ H', XW c σ H' → ∃ C, X.mg c = some (.ref C)
  exk : T.ex = true → ExK X.K X.mg
  glob : ∀ x, x ∈ T.gls → ∃ u v, X.mg x = some u ∧ RelV v u ∧ ∀ F H, Same F H → γ x = .any ∨ Rep X.K F H (γ x) v []

section
variable {T : Tab} {Φ : Fn} {γ : Gn} {XW : XWs} {sc : Scope} {X : Cx}
theorem Cok.vis (C : Cok T Φ γ XW sc X) {x : Str} (h : visB sc x = true) : Vis X.env.scope x := by
  unfold visB at h
  split at h
  · rename_i e; exact .inl (C.keep _ _ e (by decide))
  · rename_i e; exact .inr (.inl (C.keep _ _ e (by decide)))
  · rename_i e
    rcases C.free _ e with z | z
    · exact .inr (.inr z)
    · exact .inr (.inl z)
  · cases h
theorem Cok.gl (C : Cok T Φ γ XW sc X) {x : Str} (h : glB sc x = true) : Gl X x := by
  unfold glB at h
  split at h
  · rename_i e; exact C.keep _ _ e (by decide)
  · cases h
theorem Cok.loc (C : Cok T Φ γ XW sc X) {x : Str} (h : locB sc x = true) : Loc X.env.scope x ∧ (X.fn x = true ∨ X.env.scope.names.lookup x = some .local) := by
  unfold locB at h
  split at h
  · rename_i e; exact ⟨.inl (C.keep _ _ e (by decide)), .inr (C.keep _ _ e (by decide))⟩
  · rename_i e; exact ⟨.inr (C.keep _ _ e (by decide)), .inl (C.cell _ e)⟩
  · cases h
theorem star_cons {e : Expr} {es : List Expr} {env : Env} (h : notStar e = true) : starEach (e :: es) env = (false, eval e env) :: starEach es env := by
  cases e <;> first | rfl | (exact absurd h (by simp [notStar]))
theorem stars {l : List Expr} {env : Env} {pos : Pos} (h : ∀ e, e ∈ l → notStar e = true) : (backTo pos (starEach l env)).any (·.1) = false := by
  induction l with
  | nil => rfl
  | cons e es ih =>
    rw [star_cons (h e List.mem_cons_self)]
    show (false || (backTo pos (starEach es env)).any (·.1)) = false
    rw [ih fun x hx => h x (List.mem_cons_of_mem _ hx)]
    rfl
theorem plainIx_of {e : Expr} (h : plainB e = true) : PlainIx e := by
  intro o i
  cases e <;> first | rfl | (exact absurd h (by simp [plainB]))
theorem okNm_1 {x : Str} (h : okNm x = true) : (x == ("__debug__" : Str)) = false := by
  unfold okNm at h
  simp only [Bool.and_eq_true, Bool.not_eq_true'] at h
  exact h.1
theorem okNm_2 {x : Str} (h : okNm x = true) : (x == ("__classdict__" : Str)) = false := by
  unfold okNm at h
  simp only [Bool.and_eq_true, Bool.not_eq_true'] at h
  exact h.2
theorem mt_ns {as : M} {l : List Expr} (h : mt T as sc (.es l) = true) : ∀ e, e ∈ l → notStar e = true := by
  induction l generalizing as with
  | nil => exact fun e he => nomatch he
  | cons e es ih =>
    cases as <;> first | (simp [mt] at h; done) | skip
    rename_i a as
    simp only [mt, Bool.and_eq_true] at h
    intro x hx
    rcases List.mem_cons.mp hx with rfl | hx
    · exact h.1.1
    · exact ih h.2 x hx
theorem mt_star {as : M} {l : List Expr} (h : mt T as sc (.es l) = true) {env : Env} {pos : Pos} : (backTo pos (starEach l env)).any (·.1) = false := stars (mt_ns h)

/-! ### targets -/
def gA (K : PySem.W.Frag) : Tg → TGs
  | .nm i => fun vs σ H Q => ∃ v, vs = [v] ∧ gName i v σ H Q
  | .tup ts => fun vs σ H Q => ∃ v, vs = [v] ∧ (gTup K ts.len (gA K ts) v σ H Q ∨ gLst K ts.len (gA K ts) v σ H Q)
  | .nil => gNil
  | .cons t ts => fun vs σ H Q => ∃ v r, vs = v :: r ∧ gA K t [v] σ H fun σ' H' => gA K ts r σ' H' Q
theorem mtg_each {tg : Tg} {l : List Expr} (h : mtg T sc tg (.inr l) = true) (env : Env) : (assignEach l env).findIdx? (·.1) = none ∧ (assignEach l env).length = l.length ∧ (assignEach l env).map (·.2) = l.map fun e => assign e env := by
  induction l generalizing tg with
  | nil => exact ⟨rfl, rfl, rfl⟩
  | cons e es ih =>
    cases tg with
    | cons t ts =>
      simp only [mtg, Bool.and_eq_true] at h
      obtain ⟨i1, i2, i3⟩ := ih h.2
      have ee : assignEach (e :: es) env = (false, assign e env) :: assignEach es env := by
        cases e <;> first | rfl | (exfalso; cases t <;> simp [mtg] at h)
      rw [ee]
      refine ⟨?_, by simp [i2], by simp [i3]⟩
      rw [List.findIdx?_cons, i1]
      rfl
    | _ => simp [mtg] at h
theorem pg_ok (C : Cok T Φ γ XW sc X) : ∀ (tg : Tg), (∀ e, mtg T sc tg (.inl e) = true → PG X e (fun v => gA X.K tg [v])) ∧ (∀ l, mtg T sc tg (.inr l) = true → PGs X l (gA X.K tg)) := by
  intro tg
  induction tg with
  | nm i =>
    refine ⟨fun e h => ?_, fun l h => by simp [mtg] at h⟩
    cases e <;> first | (simp [mtg] at h; done) | skip
    rename_i x pos
    simp only [mtg, Bool.and_eq_true, decide_eq_true_eq] at h
    obtain ⟨h1, h2⟩ := C.loc h.2
    have g := pg_name (pos := pos) (i := i) C.nd (by rw [C.nN]; exact h.1) h1 h2
    refine ⟨fun pins s σ H v u Q I r hq => ?_⟩
    obtain ⟨w, e, hq⟩ := hq
    cases e
    exact g.run pins s σ H v u Q I r hq
  | tup ts ih =>
    refine ⟨fun e h => ?_, fun l h => by simp [mtg] at h⟩
    cases e <;> first | (simp [mtg] at h; done) | skip
    rename_i es k pos
    simp only [mtg, Bool.and_eq_true, decide_eq_true_eq] at h
    have gs := ih.2 es h.1
    obtain ⟨i1, i2, i3⟩ := mtg_each h.1 X.env
    have g := pg_tup (k := k) (pos := pos) (n := ts.len) C.calm gs (by rw [i2, h.2]) i1
    have g' := pg_lst (k := k) (pos := pos) (n := ts.len) C.calm gs (by rw [i2, h.2]) i1
    refine ⟨fun pins s σ H v u Q I r hq => ?_⟩
    obtain ⟨w, e, hq⟩ := hq
    cases e
    rcases hq with hq | hq
    · exact g.run pins s σ H v u Q I r hq
    · exact g'.run pins s σ H v u Q I r hq
  | nil =>
    refine ⟨fun e h => by simp [mtg] at h, fun l h => ?_⟩
    cases l with
    | nil => exact pgs_nil
    | cons e es => simp [mtg] at h
  | cons t ts i1 i2 =>
    refine ⟨fun e h => by simp [mtg] at h, fun l h => ?_⟩
    cases l with
    | nil => simp [mtg] at h
    | cons e es =>
      obtain ⟨k1, k2, k3⟩ := mtg_each h X.env
      simp only [mtg, Bool.and_eq_true] at h
      obtain ⟨_, _, k4⟩ := mtg_each h.2 X.env
      have g1 := i1.1 e h.1
      have g2 := i2.2 es h.2
      have g := pgs_cons g1 g2 (by rw [k3, k4]; rfl)
      exact ⟨fun pins s σ H vs us Q I r hq => g.run pins s σ H vs us Q I r hq⟩
end

/-! ### the frozen environment -/
structure EnvF (K : PySem.W.Frag) (n : Nat) (U : List Nat) (F H : Hp) (σ : St) (δ : List D) : Prop where
  inn : Same F H
  sl : σ.length = n
  dl : δ.length = n
  at' : ∀ i, i ∈ U → getD' δ i = .any ∨ ∃ v, σ[i]? = some (some v) ∧ Rep K F H (getD' δ i) v []

section
variable {K : PySem.W.Frag} {n : Nat} {U : List Nat} {F H F' H' : Hp} {σ : St} {δ : List D}
theorem EnvF.ext (E : EnvF K n U F H σ δ) (e : Ext F H F' H') : EnvF K n U F' H' σ δ :=
  ⟨e.in', E.sl, E.dl, fun i hi => (E.at' i hi).elim .inl fun ⟨v, h1, h2⟩ => .inr ⟨v, h1, rep_ext e h2⟩⟩
theorem EnvF.sub {U' : List Nat} (E : EnvF K n U F H σ δ) (h : ∀ i, i ∈ U' → i ∈ U) : EnvF K n U' F H σ δ := ⟨E.inn, E.sl, E.dl, fun i hi => E.at' i (h i hi)⟩
theorem EnvF.l {U' : List Nat} (E : EnvF K n (U' ++ U) F H σ δ) : EnvF K n U' F H σ δ := E.sub fun _ h => List.mem_append_left _ h
theorem EnvF.r {U' : List Nat} (E : EnvF K n (U ++ U') F H σ δ) : EnvF K n U' F H σ δ := E.sub fun _ h => List.mem_append_right _ h
theorem getD_set {i j : Nat} {d : D} (h : i < δ.length) : getD' (δ.set i d) j = if i = j then d else getD' δ j := by
  unfold getD'
  rw [List.getD_eq_getElem?_getD, List.getD_eq_getElem?_getD, List.getElem?_set]
  by_cases e : i = j
  · subst e
    simp [h]
  · simp [e]
theorem getD_set_any {i j : Nat} : getD' (δ.set i .any) j = .any ∨ (i ≠ j ∧ getD' (δ.set i .any) j = getD' δ j) := by
  by_cases h : i < δ.length
  · rw [getD_set h]
    by_cases e : i = j
    · exact .inl (if_pos e)
    · exact .inr ⟨e, if_neg e⟩
  · rw [List.set_eq_of_length_le (by omega)]
    by_cases e : i = j
    · subst e
      refine .inl ?_
      unfold getD'
      rw [List.getD_eq_getElem?_getD, List.getElem?_eq_none (by omega)]
      rfl
    · exact .inr ⟨e, rfl⟩
theorem EnvF.set (E : EnvF K n U F H σ δ) {i : Nat} {d : D} {v : V} (r : Rep K F H d v []) : EnvF K n U F H (σ.set i (some v)) (δ.set i d) := by
  refine ⟨E.inn, by simp [E.sl], by simp [E.dl], fun j hj => ?_⟩
  by_cases hi : i < n
  · rw [getD_set (by rw [E.dl]; exact hi)]
    by_cases e : i = j
    · subst e
      rw [if_pos rfl]
      exact .inr ⟨v, by rw [List.getElem?_set_self (by rw [E.sl]; exact hi)], r⟩
    · rw [if_neg e, List.getElem?_set_ne e]
      exact E.at' j hj
  · rw [List.set_eq_of_length_le (by rw [E.dl]; omega), List.set_eq_of_length_le (by rw [E.sl]; omega)]
    exact E.at' j hj
theorem wipeD_len (δ : List D) : ∀ vs, (wipeD δ vs).length = δ.length
  | [] => rfl
  | v :: vs => by unfold wipeD; rw [List.length_set, wipeD_len δ vs]
theorem wipeD_at (δ : List D) (j : Nat) : ∀ vs, getD' (wipeD δ vs) j = .any ∨ (j ∉ vs ∧ getD' (wipeD δ vs) j = getD' δ j)
  | [] => .inr ⟨(fun h => nomatch h), rfl⟩
  | v :: vs => by
    unfold wipeD
    rcases getD_set_any (δ := wipeD δ vs) (i := v) (j := j) with h | ⟨h1, h2⟩
    · exact .inl h
    · rcases wipeD_at δ j vs with h | ⟨h3, h4⟩
      · exact .inl (h2.trans h)
      · exact .inr ⟨fun z => (List.mem_cons.mp z).elim (fun e => h1 e.symm) h3, h2.trans h4⟩
theorem EnvF.wipe (E : EnvF K n U F H σ δ) (vs : List Nat) : EnvF K n U F H (wipe σ vs) (wipeD δ vs) := by
  refine ⟨E.inn, by rw [wipe_length, E.sl], by rw [wipeD_len, E.dl], fun j hj => ?_⟩
  rcases wipeD_at δ j vs with h | ⟨h1, h2⟩
  · exact .inl h
  · rw [h2, wipe_out h1]
    exact E.at' j hj
theorem wipe_set {i : Nat} {x : Option V} : ∀ {vs : List Nat} {σ : St}, i ∈ vs → L2.wipe (σ.set i x) vs = L2.wipe σ vs
  | [], _, h => nomatch h
  | v :: vs, σ, h => by
    unfold L2.wipe
    by_cases hi : i ∈ vs
    · rw [wipe_set hi]
    · have e : i = v := (List.mem_cons.mp h).elim id fun z => absurd z hi
      subst e
      have : ∀ (ws : List Nat), i ∉ ws → L2.wipe (σ.set i x) ws = (L2.wipe σ ws).set i x := by
        intro ws
        induction ws with
        | nil => intro _; rfl
        | cons w ws ih =>
          intro hw
          have h1 : w ≠ i := fun e => hw (by rw [e]; exact List.mem_cons_self)
          unfold L2.wipe
          rw [ih fun z => hw (List.mem_cons_of_mem _ z), List.set_comm _ _ (Ne.symm h1)]
      rw [this vs hi, List.set_set]
theorem wipe_wipe {σ : St} : ∀ {vs ws : List Nat}, (∀ v, v ∈ ws → v ∈ vs) → L2.wipe (L2.wipe σ ws) vs = L2.wipe σ vs
  | vs, [], _ => rfl
  | vs, w :: ws, h => by
    show L2.wipe ((L2.wipe σ ws).set w none) vs = _
    rw [wipe_set (h w List.mem_cons_self)]
    exact wipe_wipe fun v hv => h v (List.mem_cons_of_mem _ hv)

theorem asg_len {fz : Bool} : ∀ (tg : Tg) {ds δ δ' : List D}, asg fz tg ds δ = .ok δ' → ds.length = tg.len := by
  intro tg
  induction tg with
  | nm i =>
    intro ds δ δ' h
    cases ds with
    | nil => simp [asg] at h
    | cons d ds => cases ds with
      | nil => rfl
      | cons => simp [asg] at h
  | tup ts ih =>
    intro ds δ δ' h
    cases ds with
    | nil => simp [asg] at h
    | cons d ds => cases ds with
      | nil => rfl
      | cons => simp [asg] at h
  | nil =>
    intro ds δ δ' h
    cases ds with
    | nil => rfl
    | cons d ds => simp [asg] at h
  | cons t ts i1 i2 =>
    intro ds δ δ' h
    cases ds with
    | nil => simp [asg] at h
    | cons d ds =>
      simp only [asg] at h
      cases e : asg fz t [d] δ with
      | ok δ1 =>
        rw [e] at h
        have := i2 h
        simp [Tg.len, this]
      | exc c => rw [e] at h; cases h
      | bad => rw [e] at h; cases h
/-- what is stored, frozen -/
theorem asg_frz : ∀ (tg : Tg) {ds : List D} {vs : List V} {σ : St} {δ δ' : List D}, asg true tg ds δ = .ok δ' → Reps K F H (D.frzs ds) vs [] → EnvF K n U F H σ δ →
    ∀ Q : St → Hp → Prop, (∀ σ', EnvF K n U F H σ' δ' → (∀ ws, (∀ i, i ∈ tg.slots → i ∈ ws) → L2.wipe σ' ws = L2.wipe σ ws) → Q σ' H) → gA K tg vs σ H Q := by
  intro tg
  induction tg with
  | nm i =>
    intro ds vs σ δ δ' h rs E Q q
    cases ds with
    | nil => simp [asg] at h
    | cons d ds => cases ds with
      | cons => simp [asg] at h
      | nil =>
        simp only [asg, if_true] at h
        cases h
        simp only [D.frzs] at rs
        obtain ⟨v, rfl, r⟩ := reps_1 rs
        exact ⟨v, rfl, q _ (E.set r) fun ws hw => wipe_set (hw _ (by simp [Tg.slots]))⟩
  | tup ts ih =>
    intro ds vs σ δ δ' h rs E Q q
    cases ds with
    | nil => simp [asg] at h
    | cons d ds => cases ds with
      | cons => simp [asg] at h
      | nil =>
        cases d <;> first | (simp [asg] at h; done) | skip
        · rename_i ds
          simp only [asg] at h
          simp only [D.frzs, D.frz] at rs
          obtain ⟨v, rfl, r⟩ := reps_1 rs
          obtain ⟨a, xs, rfl, h1, h2⟩ := rep_tup r
          refine ⟨_, rfl, .inl ⟨a, xs, rfl, h1, ?_, ih h h2 E Q q⟩⟩
          rw [reps_len h2, D.frzs_eq, List.length_map]
          exact asg_len ts h
        · rename_i kk ds
          simp only [asg] at h
          simp only [D.frzs, D.frz] at rs
          obtain ⟨v, rfl, r⟩ := reps_1 rs
          obtain ⟨a, xs, S', rfl, h1, h2, h3⟩ := rep_lst E.inn r
          have e0 : S' = [] := by
            cases S' with
            | nil => rfl
            | cons b S => exact absurd (h3 b List.mem_cons_self) (by simp)
          subst e0
          refine ⟨_, rfl, .inr ⟨a, xs, rfl, h1, ?_, ih h h2 E Q q⟩⟩
          rw [reps_len h2, D.frzs_eq, List.length_map]
          exact asg_len ts h
  | nil =>
    intro ds vs σ δ δ' h rs E Q q
    cases ds with
    | cons => simp [asg] at h
    | nil =>
      simp only [asg] at h
      cases h
      simp only [D.frzs, Reps] at rs
      exact ⟨rs.1, q _ E fun ws _ => rfl⟩
  | cons t ts i1 i2 =>
    intro ds vs σ δ δ' h rs E Q q
    cases ds with
    | nil => simp [asg] at h
    | cons d ds =>
      simp only [asg] at h
      cases e : asg true t [d] δ with
      | ok δ1 =>
        rw [e] at h
        simp only [D.frzs] at rs
        obtain ⟨v, vr, S1, S2, rfl, r1, r2, _, hS⟩ := reps_uncons rs
        obtain ⟨rfl, rfl⟩ := List.append_eq_nil_iff.mp hS.symm
        refine ⟨v, vr, rfl, i1 e (by simp only [D.frzs]; exact reps_one r1) E _ fun σ1 E1 w1 => i2 h r2 E1 Q fun σ2 E2 w2 => q σ2 E2 fun ws hw => ?_⟩
        rw [w2 ws fun i hi => hw i (by simp [Tg.slots, hi]), w1 ws fun i hi => hw i (by simp [Tg.slots, hi])]
      | exc c => rw [e] at h; cases h
      | bad => rw [e] at h; cases h
end
end Mn

/-! MnE: every expression that the look lets by answers as the evaluator does. -/
namespace Mn
open PySem PySem.Spec L2
open PyProof.Rows hiding St

theorem kx_wish {XW XW' : XWt} {HB : Hp} {r : R D} {P : D → Prop} (h : Kx XW HB r P) (w : ∀ c H, XW c H → XW' c H) : Kx XW' HB r P := by
  cases r with
  | ok d => exact h
  | exc c => exact fun H' s => w _ _ (h H' s)
  | bad => exact h
/-- no exception comes: any wish will do -/
abbrev XT : XWt := fun _ _ => True
theorem kx_any {XW : XWt} {HB : Hp} {r : R D} {P : D → Prop} (h : Kx XW HB r P) : Kx XT HB r P := kx_wish h fun _ _ _ => trivial
/-! ### readings -/
section
variable (K : PySem.W.Frag) (n : Nat) (Φ : Fn) (γ : Gn) (XW : XWs)
def tE (m : M) : TE := fun σ H Q => ∃ F δ, EnvF K n m.uses F H σ δ ∧ Kt K (fun c => XW c σ) F H (ev Φ γ m δ) Q
def tT (m : M) : TT := fun σ H Q => ∃ F δ, EnvF K n m.uses F H σ δ ∧ KtB (fun c => XW c σ) F H (ev Φ γ m δ) Q
def tA (m : M) : TA := fun σ H Q => ∃ F δ, EnvF K n m.uses F H σ δ ∧ KtL K (fun c => XW c σ) F H (ev Φ γ m δ) Q
def evJ : M → List D → R D
  | .its a, δ => do
      let d ← ev Φ γ a δ
      .ok (.tup [d])
  | .it _ es, δ => ev Φ γ es δ
  | _, _ => .bad
def itJ : M → List D → R (List D)
  | .its _, [d] => itemsOf d
  | .it k _, ds => do
      let y ← itop k ds
      tupOf y
  | _, _ => .bad
inductive Jt : M → List D → List V → It → Prop where
  | lst {a : M} {k : LK} {ds : List D} {p : Addr} : Jt (.its a) [.lst k ds] [.ref p] (Itl K p)
  | tup {a : M} {ds : List D} {p : Addr} : Jt (.its a) [.tup ds] [.ref p] (Itt K p)
  | str {a : M} {s : Str} : Jt (.its a) [.str s] [.str s] (Its s)
  | r1 {es : M} {j : Int} : Jt (.it .range1 es) [.int j] [.int j] (Itr 0 j.toNat)
  | r2 {es : M} {i j : Int} : Jt (.it .range2 es) [.int i, .int j] [.int i, .int j] (Itr i (j - i).toNat)
  | r3 {es : M} {i j c : Int} : Jt (.it .range3 es) [.int i, .int j, .int c] [.int i, .int j, .int c] (Itc i c (Builtin.Range.rangeSize i j c).toNat)
  | en {es : M} {k : LK} {ds : List D} {p : Addr} : Jt (.it .enum es) [.lst k ds] [.ref p] (Ite K p)
  | zp {es : M} {k l : LK} {ds es' : List D} {p q : Addr} : Jt (.it .zip es) [.lst k ds, .lst l es'] [.ref p, .ref q] (Itz K p q)
def tJ (m : M) : TI := fun σ H R => ∃ F δ, EnvF K n m.uses F H σ δ ∧ Kx (fun c => XW c σ) H (evJ Φ γ m δ) fun y => ∃ ds items, y = .tup ds ∧ itJ m ds = .ok items ∧
  ∀ vs F' H' S J, Ext F H F' H' → Reps K F' H' ds vs S → Fresh H S → Jt K m ds vs J → R J H'
end

structure PP (T : Tab) (Φ : Fn) (γ : Gn) (m : M) : Prop where
  pe : ∀ {XW sc X e}, Cok T Φ γ XW sc X → mt T m sc (.ex e) = true → PE X e (tE X.K T.N.length Φ γ XW m)
  pt : ∀ {XW sc X e}, Cok T Φ γ XW sc X → mt T m sc (.ex e) = true → PT X e (tT X.K T.N.length Φ γ XW m)
  pw : ∀ {XW sc X op vs pos}, Cok T Φ γ XW sc X → mt T m sc (.ex (.BoolOp op vs pos)) = true → PW X (.BoolOp op vs pos) (tT X.K T.N.length Φ γ XW m)
  pa : ∀ {XW sc X l}, Cok T Φ γ XW sc X → mt T m sc (.es l) = true → PA X l (tA X.K T.N.length Φ γ XW m)
  pi : ∀ {XW sc X tg e}, Cok T Φ γ XW sc X → mt T m sc (.it tg e) = true → PI X tg e (tJ X.K T.N.length Φ γ XW m)

theorem _root_.L2.PE.of {X : Cx} {e : Expr} {t t' : TE} (h : PE X e t) (k : ∀ σ H Q, t' σ H Q → t σ H Q) : PE X e t' := ⟨fun pins s σ H Q I q => h.run pins s σ H Q I (k _ _ _ q)⟩
theorem _root_.L2.PT.of {X : Cx} {e : Expr} {t t' : TT} (h : PT X e t) (k : ∀ σ H Q, t' σ H Q → t σ H Q) : PT X e t' := ⟨fun pins s σ H Q I q => h.run pins s σ H Q I (k _ _ _ q)⟩
theorem _root_.L2.PW.of {X : Cx} {e : Expr} {t t' : TT} (h : PW X e t) (k : ∀ σ H Q, t' σ H Q → t σ H Q) : PW X e t' := ⟨fun wh pins s σ H Q I q => h.run wh pins s σ H Q I (k _ _ _ q)⟩
theorem _root_.L2.PA.of {X : Cx} {e : List Expr} {t t' : TA} (h : PA X e t) (k : ∀ σ H Q, t' σ H Q → t σ H Q) : PA X e t' := ⟨fun pos pins s σ H Q I q => h.run pos pins s σ H Q I (k _ _ _ q)⟩
theorem _root_.L2.PI.of {X : Cx} {tg e : Expr} {t t' : TI} (h : PI X tg e t) (k : ∀ σ H R, t' σ H R → t σ H R) : PI X tg e t' := ⟨fun pins s σ H R I q => h.run pins s σ H R I (k _ _ _ q)⟩

/-- a test by its value -/
def plainT : Expr → Bool
  | .UnaryOp .Not _ _ => false
  | .BoolOp _ _ _ => false
  | .IfExp _ _ _ _ => false
  | .Compare _ _ _ _ => false
  | _ => true
theorem plainT_of {e : Expr} (h : plainT e = true) (env : Env) (whole : Sem Value) : isTrue e env whole = (do let v ← whole; standAt e.pos; holding [v] (truthy v)) := by
  cases e with
  | UnaryOp op x pos => cases op <;> first | rfl | (simp [plainT] at h; done)
  | _ => first | rfl | (simp [plainT] at h; done)
theorem tT_tB {K : PySem.W.Frag} {n : Nat} {Φ : Fn} {γ : Gn} {XW : XWs} {m : M} {σ : St} {H : Hp} {Q : Bool → Hp → Prop} (h : tT K n Φ γ XW m σ H Q) : tE K n Φ γ XW m σ H fun x H1 => ∃ c, x = .bl c ∧ Q c H1 := by
  obtain ⟨F, δ, E, k⟩ := h
  refine ⟨F, δ, E, ?_⟩
  have k' : Kx _ H (ev Φ γ m δ) _ := k
  show Kx _ H (ev Φ γ m δ) _
  cases e : ev Φ γ m δ with
  | ok d =>
    rw [e] at k'
    obtain ⟨b, rfl, q⟩ := k'
    intro v F' H' S a r f
    obtain ⟨rfl, _⟩ := rep_bl r
    exact ⟨b, rfl, q F' H' a⟩
  | exc c => rw [e] at k'; exact k'
  | bad => rw [e] at k'; exact k'
theorem PP.plain {T : Tab} {Φ : Fn} {γ : Gn} {m : M} (hp : ∀ {XW sc X e}, Cok T Φ γ XW sc X → mt T m sc (.ex e) = true → PE X e (tE X.K T.N.length Φ γ XW m) ∧ plainT e = true) (h1 : ∀ sc l, mt T m sc (.es l) = false) (h2 : ∀ sc tg e, mt T m sc (.it tg e) = false) : PP T Φ γ m where
  pe C h := (hp C h).1
  pt C h := by
    obtain ⟨h1, h2⟩ := hp C h
    exact (pt_val h1 fun whole => plainT_of h2 _ whole).of fun σ H Q => tT_tB
  pw C h := by
    have := (hp C h).2
    exact absurd this (by simp [plainT])
  pa C h := by rw [h1] at h; cases h
  pi C h := by rw [h2] at h; cases h

section
variable {T : Tab} {Φ : Fn} {γ : Gn}
theorem pp_slot (i : Nat) : PP T Φ γ (.slot i) := by
  refine .plain (fun {XW sc X e} C h => ?_) (fun _ _ => by simp [mt]) (fun _ _ _ => by simp [mt])
  cases e <;> first | (simp [mt] at h; done) | skip
  rename_i x pos
  simp only [mt, Bool.and_eq_true, decide_eq_true_eq] at h
  refine ⟨(pe_var (i := i) (by rw [C.nN]; exact h.1.1) (C.vis h.1.2) (okNm_1 h.2) (okNm_2 h.2)).of fun σ H Q ⟨F, δ, E, k⟩ => ?_, rfl⟩
  simp only [ev] at k
  rcases E.at' i (by simp [M.uses]) with z | ⟨v, h1, h2⟩
  · rw [z] at k
    exact k.elim
  · refine ⟨v, h1, ?_⟩
    split at k
    · exact k.elim
    · exact k v F H [] (Ext.refl E.inn) h2 .nil
theorem pp_glob (x : Str) : PP T Φ γ (.glob x) := by
  refine .plain (fun {XW sc X e} C h => ?_) (fun _ _ => by simp [mt]) (fun _ _ _ => by simp [mt])
  cases e <;> first | (simp [mt] at h; done) | skip
  rename_i y pos
  simp only [mt, Bool.and_eq_true, decide_eq_true_eq] at h
  obtain ⟨⟨⟨rfl, h1⟩, h2⟩, h3⟩ := h
  obtain ⟨u, v, k1, k2, k3⟩ := C.glob _ h1
  refine ⟨(pe_glob (C.gl h2) k1 k2 (okNm_1 h3)).of fun σ H Q ⟨F, δ, E, k⟩ => ?_, rfl⟩
  simp only [ev] at k
  show Q v H
  split at k
  · exact k.elim
  · rename_i d hd _
    rcases k3 F H E.inn with z | z
    · exact absurd z (by assumption)
    · exact k v F H [] (Ext.refl E.inn) z .nil
theorem pp_int (i : Int) : PP T Φ γ (.int i) := by
  refine .plain (fun {XW sc X e} C h => ?_) (fun _ _ => by simp [mt]) (fun _ _ _ => by simp [mt])
  cases e <;> first | (simp [mt] at h; done) | skip
  rename_i c _ _
  cases c <;> first | (simp [mt] at h; done) | skip
  simp only [mt, decide_eq_true_eq] at h
  subst h
  exact ⟨pe_int.of fun σ H Q ⟨F, δ, E, k⟩ => kt_int (F := F) k (Ext.refl E.inn), rfl⟩
theorem pp_str (i : Str) : PP T Φ γ (.str i) := by
  refine .plain (fun {XW sc X e} C h => ?_) (fun _ _ => by simp [mt]) (fun _ _ _ => by simp [mt])
  cases e <;> first | (simp [mt] at h; done) | skip
  rename_i c _ _
  cases c <;> first | (simp [mt] at h; done) | skip
  simp only [mt, decide_eq_true_eq] at h
  subst h
  exact ⟨pe_str.of fun σ H Q ⟨F, δ, E, k⟩ => kt_str (F := F) k (Ext.refl E.inn), rfl⟩
theorem pp_bl (i : Bool) : PP T Φ γ (.bl i) := by
  refine .plain (fun {XW sc X e} C h => ?_) (fun _ _ => by simp [mt]) (fun _ _ _ => by simp [mt])
  cases e <;> first | (simp [mt] at h; done) | skip
  rename_i c _ _
  cases c <;> first | (simp [mt] at h; done) | skip
  simp only [mt, decide_eq_true_eq] at h
  subst h
  exact ⟨pe_bl.of fun σ H Q ⟨F, δ, E, k⟩ => kt_bl (F := F) k (Ext.refl E.inn), rfl⟩
theorem pp_non : PP T Φ γ .non := by
  refine .plain (fun {XW sc X e} C h => ?_) (fun _ _ => by simp [mt]) (fun _ _ _ => by simp [mt])
  cases e <;> first | (simp [mt] at h; done) | skip
  rename_i c _ _
  cases c <;> first | (simp [mt] at h; done) | skip
  exact ⟨pe_non.of fun σ H Q ⟨F, δ, E, k⟩ => kt_non (F := F) k (Ext.refl E.inn), rfl⟩
/-- two expressions, from the left -/
theorem two_step {K : PySem.W.Frag} {n : Nat} {XW : XWs} {a b : M} {σ : St} {F H : Hp} {δ : List D} {op : D → D → R D} {P : D → Prop} (E : EnvF K n (a.uses ++ b.uses) F H σ δ) (k : Kx (fun c => XW c σ) H (ev Φ γ a δ >>= fun x => ev Φ γ b δ >>= fun y => op x y) P)
    {G : V → V → Hp → Prop} (g : ∀ x y F2 H2 u v, EnvF K n (a.uses ++ b.uses) F2 H2 σ δ → Two K F H F2 H2 x y u v → Kx (fun c => XW c σ) H (op x y) P → G u v H2) : tE K n Φ γ XW a σ H fun u H1 => tE K n Φ γ XW b σ H1 fun v H2 => G u v H2 := by
  refine ⟨F, δ, E.l, kt_bind k (Ext.refl E.inn) fun da va F1 H1 S1 h1 e1 r1 f1 k1 => ?_⟩
  refine ⟨F1, δ, (E.r).ext e1, kt_bind k1 e1 fun db vb F2 H2 S2 h2 e2 r2 f2 k2 => ?_⟩
  exact g da db F2 H2 va vb (E.ext (e1.trans e2)) ⟨S1, S2, e1.trans e2, rep_ext e2 r1, r2, f1, f2.mono e1.h, fresh_apart r1 f2⟩ k2
theorem pp_bin (op : Bop) {a b : M} (ia : PP T Φ γ a) (ib : PP T Φ γ b) : PP T Φ γ (.bin op a b) := by
  refine .plain (fun {XW sc X e} C h => ?_) (fun _ _ => by simp [mt]) (fun _ _ _ => by simp [mt])
  cases e <;> first | (simp [mt] at h; done) | skip
  simp only [mt, Bool.and_eq_true, decide_eq_true_eq] at h
  obtain ⟨⟨rfl, h1⟩, h2⟩ := h
  refine ⟨(pe_op (bop_ok (XW := XT) op) (ia.pe C h1) (ib.pe C h2)).of fun σ H Q ⟨F, δ, E, k⟩ => ?_, rfl⟩
  simp only [ev] at k
  exact two_step E k fun x y F2 H2 u v _ t q => ⟨F, H, F2, x, y, t, kx_any q⟩
theorem pp_neg {a : M} (ia : PP T Φ γ a) : PP T Φ γ (.neg a) := by
  refine .plain (fun {XW sc X e} C h => ?_) (fun _ _ => by simp [mt]) (fun _ _ _ => by simp [mt])
  cases e <;> first | (simp [mt] at h; done) | skip
  rename_i o x pos
  cases o <;> first | (simp [mt] at h; done) | skip
  simp only [mt] at h
  refine ⟨(pe_un un_neg (ia.pe C h)).of fun σ H Q ⟨F, δ, E, k⟩ => ?_, rfl⟩
  simp only [ev] at k
  refine ⟨F, δ, E, kt_bind k (Ext.refl E.inn) fun d v F1 H1 S1 h1 e1 r1 f1 k1 => ?_⟩
  split at k1
  · obtain ⟨rfl, _⟩ := rep_int r1
    exact ⟨_, rfl, kt_int k1 e1⟩
  · exact k1.elim
theorem pp_cmp (op : Cop) {a b : M} (ia : PP T Φ γ a) (ib : PP T Φ γ b) : PP T Φ γ (.cmp op a b) := by
  have look : ∀ {sc e}, mt T (.cmp op a b) sc (.ex e) = true → ∃ x y pos, e = .Compare x [op.py] [y] pos ∧ behindInMarks op.py y = false ∧ mt T a sc (.ex x) = true ∧ mt T b sc (.ex y) = true := by
    intro sc e h
    cases e <;> first | (simp [mt] at h; done) | skip
    rename_i x os ys pos
    cases os <;> first | (simp [mt] at h; done) | skip
    rename_i o os
    cases os <;> first | (simp [mt] at h; done) | skip
    cases ys <;> first | (simp [mt] at h; done) | skip
    rename_i y ys
    cases ys <;> first | (simp [mt] at h; done) | skip
    simp only [mt, Bool.and_eq_true, decide_eq_true_eq, Bool.not_eq_true'] at h
    obtain ⟨⟨⟨rfl, h0⟩, h1⟩, h2⟩ := h
    exact ⟨x, y, pos, rfl, h0, h1, h2⟩
  refine ⟨fun {XW sc X e} C h => ?_, fun {XW sc X e} C h => ?_, fun {XW sc X o vs pos} C h => ?_, fun C h => by simp [mt] at h, fun C h => by simp [mt] at h⟩
  · obtain ⟨x, y, pos, rfl, h0, h1, h2⟩ := look h
    refine (pe_cmpR (cop_ok (XW := XT) C.units op) (ia.pe C h1) (ib.pe C h2) h0).of fun σ H Q ⟨F, δ, E, k⟩ => ?_
    simp only [ev] at k
    exact two_step E k fun x y F2 H2 u v _ t q => ⟨F, H, F2, x, y, t, kx_any q⟩
  · obtain ⟨x, y, pos, rfl, h0, h1, h2⟩ := look h
    refine (pt_cmpR (cop_ok (XW := XT) C.units op) (ia.pe C h1) (ib.pe C h2) h0).of fun σ H Q q => ?_
    obtain ⟨F, δ, E, k⟩ := tT_tB q
    simp only [ev] at k
    exact two_step E k fun x y F2 H2 u v _ t q => ⟨F, H, F2, x, y, t, kx_any q⟩
  · obtain ⟨x, y, pos, e, _⟩ := look h
    cases e
theorem pp_chain (o1 o2 : Cop) {a b c : M} (ia : PP T Φ γ a) (ib : PP T Φ γ b) (ic : PP T Φ γ c) : PP T Φ γ (.chain o1 o2 a b c) := by
  have look : ∀ {sc e}, mt T (.chain o1 o2 a b c) sc (.ex e) = true → ∃ x y z pos, e = .Compare x [o1.py, o2.py] [y, z] pos ∧ lastMarks [o1.py, o2.py] [y, z] = false ∧ mt T a sc (.ex x) = true ∧ mt T b sc (.ex y) = true ∧ mt T c sc (.ex z) = true := by
    intro sc e h
    cases e <;> first | (simp [mt] at h; done) | skip
    rename_i x os ys pos
    rcases os with _ | ⟨p1, _ | ⟨p2, _ | ⟨p3, os⟩⟩⟩ <;> first | (simp [mt] at h; done) | skip
    rcases ys with _ | ⟨y, _ | ⟨z, _ | ⟨z3, ys⟩⟩⟩ <;> first | (simp [mt] at h; done) | skip
    simp only [mt, Bool.and_eq_true, decide_eq_true_eq, Bool.not_eq_true'] at h
    obtain ⟨⟨⟨⟨⟨rfl, rfl⟩, h0⟩, h1⟩, h2⟩, h3⟩ := h
    exact ⟨x, y, z, pos, rfl, h0, h1, h2, h3⟩
  have main : ∀ {XW sc X} (C : Cok T Φ γ XW sc X) {σ H Q}, tE X.K T.N.length Φ γ XW (.chain o1 o2 a b c) σ H Q → tChain (r2D X.K XT (cmpop o1)) (r2D X.K XT (cmpop o2)) (tE X.K T.N.length Φ γ XW a) (tE X.K T.N.length Φ γ XW b) (tE X.K T.N.length Φ γ XW c) σ H Q := by
    intro XW sc X C σ H Q ⟨F, δ, E, k⟩
    simp only [ev] at k
    have E' : EnvF X.K T.N.length (a.uses ++ b.uses) F H σ δ := E.sub fun i hi => by
      simp only [M.uses, List.mem_append] at hi ⊢
      rcases hi with h | h
      · exact .inl h
      · exact .inr (.inl h)
    have Ec : EnvF X.K T.N.length c.uses F H σ δ := E.sub fun i hi => by
      simp only [M.uses, List.mem_append]
      exact .inr (.inr hi)
    refine two_step E' k fun x y F2 H2 u v E2 t q => ?_
    obtain ⟨S, U, e, r1, r2, f1, f2, ap⟩ := id t.ex
    cases x <;> first | exact q.elim | skip
    rename_i i
    cases y <;> first | exact q.elim | skip
    rename_i j
    obtain ⟨rfl, rfl⟩ := rep_int r1
    obtain ⟨rfl, rfl⟩ := rep_int r2
    refine ⟨F2, H2, F2, .int i, .int j, ⟨[], [], Ext.refl e.in', r1, r2, .nil, .nil, fun _ h => nomatch h⟩, ?_⟩
    refine kx_any (kx_bind (XW := fun c => XW c σ) (show Kx _ H (cmpop o1 (.int i) (.int j) >>= _) _ from q) e.h fun d hd q1 v F3 H3 S3 e3 r3 f3 => ?_)
    cases d <;> first | exact q1.elim | skip
    rename_i k
    obtain ⟨rfl, _⟩ := rep_bl r3
    refine ⟨k, rfl, ?_⟩
    cases k with
    | false => exact kt_bl q1 (e.trans e3)
    | true =>
      show tE X.K T.N.length Φ γ XW c σ H3 _
      refine ⟨F3, δ, Ec.ext (e.trans e3), kt_bind (show Kx _ H (ev Φ γ c δ >>= _) _ from q1) (e.trans e3) fun dz vz F4 H4 S4 h4 e4 r4 f4 q4 => ?_⟩
      refine ⟨F, H, F4, .int j, dz, ⟨[], S4, (e.trans e3).trans e4, rep_ext (e3.trans e4) r2, r4, .nil, f4.mono (e.trans e3).h, fun _ h => nomatch h⟩, ?_⟩
      refine kx_any (kx_bind (XW := fun c => XW c σ) (show Kx _ H (cmpop o2 (.int j) dz >>= _) _ from q4) (.refl _) fun d hd q5 => ?_)
      cases d <;> first | exact q5.elim | exact q5
  refine ⟨fun {XW sc X e} C h => ?_, fun {XW sc X e} C h => ?_, fun {XW sc X o vs pos} C h => ?_, fun C h => by simp [mt] at h, fun C h => by simp [mt] at h⟩
  · obtain ⟨x, y, z, pos, rfl, h0, h1, h2, h3⟩ := look h
    exact (pe_chain (cop_ok (XW := XT) C.units o1) (cop_ok (XW := XT) C.units o2) (ia.pe C h1) (ib.pe C h2) (ic.pe C h3) h0).of fun σ H Q q => main C q
  · obtain ⟨x, y, z, pos, rfl, h0, h1, h2, h3⟩ := look h
    exact (pt_chain (cop_ok (XW := XT) C.units o1) (cop_ok (XW := XT) C.units o2) (ia.pe C h1) (ib.pe C h2) (ic.pe C h3) h0).of fun σ H Q q => main C (tT_tB q)
  · obtain ⟨x, y, z, pos, e, _⟩ := look h
    cases e
theorem pp_not {a : M} (ia : PP T Φ γ a) : PP T Φ γ (.not a) := by
  have look : ∀ {sc e}, mt T (.not a) sc (.ex e) = true → ∃ x pos, e = .UnaryOp .Not x pos ∧ mt T a sc (.ex x) = true := by
    intro sc e h
    cases e <;> first | (simp [mt] at h; done) | skip
    rename_i o x pos
    cases o <;> first | (simp [mt] at h; done) | skip
    simp only [mt] at h
    exact ⟨x, pos, rfl, h⟩
  refine ⟨fun {XW sc X e} C h => ?_, fun {XW sc X e} C h => ?_, fun {XW sc X o vs pos} C h => ?_, fun C h => by simp [mt] at h, fun C h => by simp [mt] at h⟩
  · obtain ⟨x, pos, rfl, h1⟩ := look h
    refine (pe_not (ia.pe C h1)).of fun σ H Q ⟨F, δ, E, k⟩ => ?_
    simp only [ev] at k
    exact tT_tB ⟨F, δ, E, kt_bindB k (Ext.refl E.inn) fun b F1 H1 h1 e1 k1 => kt_bl k1 e1⟩
  · obtain ⟨x, pos, rfl, h1⟩ := look h
    refine (pt_not (ia.pt C h1)).of fun σ H Q ⟨F, δ, E, k⟩ => ?_
    simp only [ev] at k
    refine ⟨F, δ, E, kt_bindB k (Ext.refl E.inn) fun b F1 H1 h1 e1 k1 => ?_⟩
    obtain ⟨b', e', q⟩ := k1
    cases e'
    exact q F1 H1 e1
  · obtain ⟨x, pos, e, _⟩ := look h
    cases e
theorem pp_nil : PP T Φ γ .nil := by
  refine ⟨fun C h => by simp [mt] at h, fun C h => by simp [mt] at h, fun C h => by simp [mt] at h, fun {XW sc X l} C h => ?_, fun C h => by simp [mt] at h⟩
  cases l with
  | cons => simp [mt] at h
  | nil =>
    refine pa_nil.of fun σ H Q ⟨F, δ, E, k⟩ => ?_
    simp only [ev] at k
    obtain ⟨ds, e, q⟩ := k
    cases e
    exact q [] F H [] (Ext.refl E.inn) reps_nil' .nil
theorem pp_cons {a b : M} (ia : PP T Φ γ a) (ib : PP T Φ γ b) : PP T Φ γ (.cons a b) := by
  refine ⟨fun C h => by simp [mt] at h, fun C h => by simp [mt] at h, fun C h => by simp [mt] at h, fun {XW sc X l} C h => ?_, fun C h => by simp [mt] at h⟩
  cases l with
  | nil => simp [mt] at h
  | cons e es =>
    simp only [mt, Bool.and_eq_true] at h
    refine (pa_cons (ia.pe C h.1.2) (ib.pa C h.2) (star_cons h.1.1)).of fun σ H Q ⟨F, δ, E, k⟩ => ?_
    simp only [ev] at k
    refine ⟨F, δ, E.l, kt_bind k (Ext.refl E.inn) fun da va F1 H1 S1 h1 e1 r1 f1 k1 => ?_⟩
    refine ⟨F1, δ, (E.r).ext e1, kt_bindL k1 e1 fun ds vs F2 H2 S2 h2 e2 r2 f2 k2 => ?_⟩
    obtain ⟨ds', e', q⟩ := k2
    cases e'
    exact q (va :: vs) F2 H2 (S1 ++ S2) (e1.trans e2) (reps_cons (rep_ext e2 r1) r2 (fresh_apart r1 f2)) fun c hc => (List.mem_append.mp hc).elim (f1 c) (f2.mono e1.h c)
theorem pp_tup {a : M} (ia : PP T Φ γ a) : PP T Φ γ (.tup a) := by
  refine .plain (fun {XW sc X e} C h => ?_) (fun _ _ => by simp [mt]) (fun _ _ _ => by simp [mt])
  cases e <;> first | (simp [mt] at h; done) | skip
  simp only [mt] at h
  refine ⟨(pe_tup (ia.pa C h)).of fun σ H Q ⟨F, δ, E, k⟩ => ?_, rfl⟩
  simp only [ev] at k
  refine ⟨F, δ, E, kt_bindL k (Ext.refl E.inn) fun ds vs F1 H1 S1 h1 e1 r1 f1 k1 => ?_⟩
  split at k1
  · rename_i hz
    exact ⟨by rw [reps_len r1]; exact hz, fun p hp => kt_tup k1 e1 r1 f1 hp⟩
  · exact k1.elim
theorem pp_list {a : M} (ia : PP T Φ γ a) : PP T Φ γ (.list a) := by
  refine .plain (fun {XW sc X e} C h => ?_) (fun _ _ => by simp [mt]) (fun _ _ _ => by simp [mt])
  cases e <;> first | (simp [mt] at h; done) | skip
  simp only [mt] at h
  refine ⟨(pe_lst (ia.pa C h)).of fun σ H Q ⟨F, δ, E, k⟩ => ?_, rfl⟩
  simp only [ev] at k
  refine ⟨F, δ, E, kt_bindL k (Ext.refl E.inn) fun ds vs F1 H1 S1 h1 e1 r1 f1 k1 => ?_⟩
  split at k1
  · rename_i hz
    exact ⟨by rw [reps_len r1]; exact hz, fun p hp => kt_lst k1 e1 r1 f1 hp⟩
  · exact k1.elim
theorem pp_sub {a b : M} (ia : PP T Φ γ a) (ib : PP T Φ γ b) : PP T Φ γ (.sub a b) := by
  refine .plain (fun {XW sc X e} C h => ?_) (fun _ _ => by simp [mt]) (fun _ _ _ => by simp [mt])
  cases e <;> first | (simp [mt] at h; done) | skip
  simp only [mt, Bool.and_eq_true] at h
  refine ⟨(pe_ix (ix_ok (XW := XT) C.units) (ia.pe C h.1.2) (ib.pe C h.2) (plainIx_of h.1.1)).of fun σ H Q ⟨F, δ, E, k⟩ => ?_, rfl⟩
  simp only [ev] at k
  exact two_step E k fun x y F2 H2 u v _ t q => ⟨F, H, F2, x, y, t, kx_any q⟩
theorem pp_rev {a : M} (ia : PP T Φ γ a) : PP T Φ γ (.rev a) := by
  have look : ∀ {sc e}, mt T (.rev a) sc (.ex e) = true → ∃ x k p1 p2 p3 pos, e = .Subscript x (.Slice none none (some (.UnaryOp .USub (.Constant (.int 1) k p1) p2)) p3) pos ∧ mt T a sc (.ex x) = true := by
    intro sc e h
    cases e <;> first | (simp [mt] at h; done) | skip
    rename_i x sl pos
    cases sl <;> first | (simp [mt] at h; done) | skip
    rename_i l u st p3
    cases l <;> first | (simp [mt] at h; done) | skip
    cases u <;> first | (simp [mt] at h; done) | skip
    cases st <;> first | (simp [mt] at h; done) | skip
    rename_i st
    cases st <;> first | (simp [mt] at h; done) | skip
    rename_i o c p2
    cases o <;> first | (simp [mt] at h; done) | skip
    cases c <;> first | (simp [mt] at h; done) | skip
    rename_i c k p1
    cases c <;> first | (simp [mt] at h; done) | skip
    simp only [mt, Bool.and_eq_true, decide_eq_true_eq] at h
    obtain ⟨rfl, h⟩ := h
    exact ⟨x, k, p1, p2, p3, pos, rfl, h⟩
  refine .plain (fun {XW sc X e} C h => ?_) (fun _ _ => by simp [mt]) (fun _ _ _ => by simp [mt])
  obtain ⟨x, k, p1, p2, p3, pos, rfl, h1⟩ := look h
  refine ⟨(pe_rev2 (ia.pe C h1)).of fun σ H Q ⟨F, δ, E, k⟩ => ?_, rfl⟩
  simp only [ev] at k
  refine ⟨F, δ, E, kt_bind k (Ext.refl E.inn) fun da va F1 H1 S1 h1 e1 r1 f1 k1 => ?_⟩
  unfold revop at k1
  split at k1
  · obtain ⟨p, vs, S', rfl, q1, q2, q3⟩ := rep_lst e1.in' r1
    refine .inl ⟨p, vs, rfl, q1, fun w hw => ?_⟩
    obtain ⟨S2, q4, q5⟩ := reps_rev q2
    exact kt_lst k1 e1 q4 (fun c hc => f1 c (q3 c (q5 c hc))) hw
  · obtain ⟨p, vs, rfl, q1, q2⟩ := rep_tup r1
    refine .inr ⟨p, vs, rfl, q1, fun w hw => ?_⟩
    obtain ⟨S2, q4, q5⟩ := reps_rev q2
    exact kt_tup k1 e1 q4 (fun c hc => f1 c (q5 c hc)) hw
  · exact k1.elim

theorem slice_part {K : PySem.W.Frag} {XW : XWs} {n : Nat} {F H F1 H1 : Hp} {σ : St} {δ : List D} {m : M} {P : D → Prop} {f : Int → R D} {R : Option Int → Hp → Prop} (E : EnvF K n m.uses F H σ δ) (e1 : Ext F H F1 H1)
    (k : Kx (fun c => XW c σ) H (ev Φ γ m δ >>= fun h => intOf h >>= f) P) (g : ∀ i F2 H2, Ext F1 H1 F2 H2 → Kx (fun c => XW c σ) H (f i) P → R (some i) H2) : tPart (tE K n Φ γ XW m) σ H1 R := by
  refine ⟨F1, δ, E.ext e1, kt_bind k e1 fun d v F2 H2 S h e2 r f2 k1 => ?_⟩
  cases d <;> first | exact k1.elim | skip
  obtain ⟨rfl, _⟩ := rep_int r
  exact ⟨_, rfl, g _ F2 H2 e2 k1⟩
theorem pp_slice {a lo hi : M} (ia : PP T Φ γ a) (il : PP T Φ γ lo) (ih : PP T Φ γ hi) : PP T Φ γ (.slice a lo hi) := by
  refine .plain (fun {XW sc X e} C h => ?_) (fun _ _ => by simp [mt]) (fun _ _ _ => by simp [mt])
  cases e <;> first | (simp [mt] at h; done) | skip
  rename_i x sl pos
  cases sl <;> first | (simp [mt] at h; done) | skip
  rename_i l u st p3
  cases st <;> first | (simp [mt] at h; done) | skip
  simp only [mt, Bool.and_eq_true] at h
  obtain ⟨⟨h1, h2⟩, h3⟩ := h
  have Ea : ∀ {F H σ δ}, EnvF X.K T.N.length (M.slice a lo hi).uses F H σ δ → EnvF X.K T.N.length a.uses F H σ δ ∧ EnvF X.K T.N.length lo.uses F H σ δ ∧ EnvF X.K T.N.length hi.uses F H σ δ := fun E =>
    ⟨E.l, E.r.l, E.r.r⟩
  have po : ∃ tl, PO X l tl ∧ (∀ {σ H R}, (l = none → R none H) → (∀ e, l = some e → tPart (tE X.K T.N.length Φ γ XW lo) σ H R) → tl σ H R) := by
    cases l with
    | none => exact ⟨_, po_none, fun h _ => h rfl⟩
    | some e =>
      simp only [Bool.and_eq_true] at h2
      exact ⟨_, po_some (il.pe C h2.2), fun _ h => h e rfl⟩
  have pu : ∃ tl, PO X u tl ∧ (∀ {σ H R}, (u = none → R none H) → (∀ e, u = some e → tPart (tE X.K T.N.length Φ γ XW hi) σ H R) → tl σ H R) := by
    cases u with
    | none => exact ⟨_, po_none, fun h _ => h rfl⟩
    | some e =>
      simp only [Bool.and_eq_true] at h3
      exact ⟨_, po_some (ih.pe C h3.2), fun _ h => h e rfl⟩
  obtain ⟨tl, pl, ql⟩ := po
  obtain ⟨tu, pu, qu⟩ := pu
  have el : lo.isNil = true ↔ l = none := by
    cases l with
    | none => exact ⟨fun _ => rfl, fun _ => h2⟩
    | some e =>
      simp only [Bool.and_eq_true, Bool.not_eq_true'] at h2
      rw [h2.1]
      exact ⟨(fun z => nomatch z), (fun z => nomatch z)⟩
  have eu : hi.isNil = true ↔ u = none := by
    cases u with
    | none => exact ⟨fun _ => rfl, fun _ => h3⟩
    | some e =>
      simp only [Bool.and_eq_true, Bool.not_eq_true'] at h3
      rw [h3.1]
      exact ⟨(fun z => nomatch z), (fun z => nomatch z)⟩
  refine ⟨(pe_slice (sl_ok (XW := XT)) (ia.pe C h1) pl pu).of fun σ H Q ⟨F, δ, E, k⟩ => ?_, rfl⟩
  obtain ⟨E1, E2, E3⟩ := Ea E
  simp only [ev] at k
  refine ⟨F, δ, E1, kt_bind k (Ext.refl E.inn) fun da va F1 H1 S1 h1 e1 r1 f1 k1 => ?_⟩
  refine ql (fun z => ?_) fun e z => ?_
  · rw [if_pos (el.mpr z)] at k1
    refine qu (fun z => ?_) fun e z => ?_
    · rw [if_pos (eu.mpr z)] at k1
      exact ⟨F, H, F1, da, ⟨S1, e1, r1, f1⟩, kx_any k1⟩
    · rw [if_neg (fun q => by rw [eu.mp q] at z; cases z)] at k1
      exact slice_part E3 e1 k1 fun i F2 H2 e2 k2 => ⟨F, H, F2, da, ⟨S1, e1.trans e2, rep_ext e2 r1, f1⟩, kx_any k2⟩
  · rw [if_neg (fun q => by rw [el.mp q] at z; cases z)] at k1
    refine slice_part E2 e1 k1 fun i F2 H2 e2 k2 => ?_
    refine qu (fun z => ?_) fun e z => ?_
    · rw [if_pos (eu.mpr z)] at k2
      exact ⟨F, H, F2, da, ⟨S1, e1.trans e2, rep_ext e2 r1, f1⟩, kx_any k2⟩
    · rw [if_neg (fun q => by rw [eu.mp q] at z; cases z)] at k2
      exact slice_part E3 (e1.trans e2) k2 fun j F3 H3 e3 k3 => ⟨F, H, F3, da, ⟨S1, (e1.trans e2).trans e3, rep_ext (e2.trans e3) r1, f1⟩, kx_any k3⟩
theorem pp_and {a b : M} (ia : PP T Φ γ a) (ib : PP T Φ γ b) : PP T Φ γ (.and a b) := by
  have look : ∀ {sc e}, mt T (.and a b) sc (.ex e) = true → ∃ x y r pos, e = .BoolOp .And (x :: y :: r) pos ∧ mt T a sc (.ex x) = true ∧ ((r = [] ∧ mt T b sc (.ex y) = true) ∨ (mt T b sc (.ex (.BoolOp .And (y :: r) pos)) = true)) := by
    intro sc e h
    cases e <;> first | (simp [mt] at h; done) | skip
    rename_i o vs pos
    cases o <;> first | (simp [mt] at h; done) | skip
    rcases vs with _ | ⟨x, _ | ⟨y, r⟩⟩ <;> first | (simp [mt] at h; done) | skip
    simp only [mt, Bool.and_eq_true] at h
    refine ⟨x, y, r, pos, rfl, h.1, ?_⟩
    cases r with
    | nil => exact .inl ⟨rfl, h.2⟩
    | cons z r => exact .inr h.2
  have pw : ∀ {XW sc X op vs pos}, Cok T Φ γ XW sc X → mt T (.and a b) sc (.ex (.BoolOp op vs pos)) = true → PW X (.BoolOp op vs pos) (tT X.K T.N.length Φ γ XW (.and a b)) := by
    intro XW sc X op vs pos C h
    obtain ⟨x, y, r, pos', e, h1, h2⟩ := look h
    cases e
    have w : PW X (.BoolOp .And (y :: r) pos) (tT X.K T.N.length Φ γ XW b) := by
      rcases h2 with ⟨rfl, h2⟩ | h2
      · exact pw_and1 (ib.pt C h2)
      · exact ib.pw C h2
    refine (pw_and (ia.pt C h1) w).of fun σ H Q ⟨F, δ, E, k⟩ => ?_
    simp only [ev] at k
    refine ⟨F, δ, E.l, kt_bindB k (Ext.refl E.inn) fun q F1 H1 h1 e1 k1 => ?_⟩
    cases q with
    | false =>
      obtain ⟨b', e', z⟩ := k1
      cases e'
      exact z F1 H1 e1
    | true =>
      refine ⟨F1, δ, (E.r).ext e1, kt_bindB (show Kx _ H (ev Φ γ b δ >>= _) _ from k1) e1 fun q F2 H2 h2 e2 k2 => ?_⟩
      obtain ⟨b', e', z⟩ := k2
      cases e'
      exact z F2 H2 (e1.trans e2)
  refine ⟨fun {XW sc X e} C h => ?_, fun {XW sc X e} C h => ?_, pw, fun C h => by simp [mt] at h, fun C h => by simp [mt] at h⟩
  · obtain ⟨x, y, r, pos, rfl, h1, h2⟩ := look h
    have w : PE X (.BoolOp .And (y :: r) pos) (tE X.K T.N.length Φ γ XW b) := by
      rcases h2 with ⟨rfl, h2⟩ | h2
      · exact pe_one (ib.pe C h2)
      · exact ib.pe C h2
    refine (pe_and (ia.pe C h1) w).of fun σ H Q ⟨F, δ, E, k⟩ => ?_
    simp only [ev] at k
    refine tT_tB ⟨F, δ, E.l, kt_bindB k (Ext.refl E.inn) fun q F1 H1 h1 e1 k1 => ?_⟩
    cases q with
    | false => exact kt_bl k1 e1
    | true =>
      show tE X.K T.N.length Φ γ XW b σ H1 Q
      refine ⟨F1, δ, (E.r).ext e1, kt_bind (show Kx _ H (ev Φ γ b δ >>= _) _ from k1) e1 fun d v F2 H2 S2 h2 e2 r2 f2 k2 => ?_⟩
      cases d <;> first | exact k2.elim | skip
      obtain ⟨rfl, _⟩ := rep_bl r2
      exact kt_bl k2 (e1.trans e2)
  · obtain ⟨x, y, r, pos, rfl, h1, h2⟩ := look h
    exact (pw C h).pt
theorem pp_or {a b : M} (ia : PP T Φ γ a) (ib : PP T Φ γ b) : PP T Φ γ (.or a b) := by
  have look : ∀ {sc e}, mt T (.or a b) sc (.ex e) = true → ∃ x y r pos, e = .BoolOp .Or (x :: y :: r) pos ∧ mt T a sc (.ex x) = true ∧ ((r = [] ∧ mt T b sc (.ex y) = true) ∨ (mt T b sc (.ex (.BoolOp .Or (y :: r) pos)) = true)) := by
    intro sc e h
    cases e <;> first | (simp [mt] at h; done) | skip
    rename_i o vs pos
    cases o <;> first | (simp [mt] at h; done) | skip
    rcases vs with _ | ⟨x, _ | ⟨y, r⟩⟩ <;> first | (simp [mt] at h; done) | skip
    simp only [mt, Bool.and_eq_true] at h
    refine ⟨x, y, r, pos, rfl, h.1, ?_⟩
    cases r with
    | nil => exact .inl ⟨rfl, h.2⟩
    | cons z r => exact .inr h.2
  have pw : ∀ {XW sc X op vs pos}, Cok T Φ γ XW sc X → mt T (.or a b) sc (.ex (.BoolOp op vs pos)) = true → PW X (.BoolOp op vs pos) (tT X.K T.N.length Φ γ XW (.or a b)) := by
    intro XW sc X op vs pos C h
    obtain ⟨x, y, r, pos', e, h1, h2⟩ := look h
    cases e
    have w : PW X (.BoolOp .Or (y :: r) pos) (tT X.K T.N.length Φ γ XW b) := by
      rcases h2 with ⟨rfl, h2⟩ | h2
      · exact pw_or1 (ib.pt C h2)
      · exact ib.pw C h2
    refine (pw_or (ia.pt C h1) w).of fun σ H Q ⟨F, δ, E, k⟩ => ?_
    simp only [ev] at k
    refine ⟨F, δ, E.l, kt_bindB k (Ext.refl E.inn) fun q F1 H1 h1 e1 k1 => ?_⟩
    cases q with
    | true =>
      obtain ⟨b', e', z⟩ := k1
      cases e'
      exact z F1 H1 e1
    | false =>
      refine ⟨F1, δ, (E.r).ext e1, kt_bindB (show Kx _ H (ev Φ γ b δ >>= _) _ from k1) e1 fun q F2 H2 h2 e2 k2 => ?_⟩
      obtain ⟨b', e', z⟩ := k2
      cases e'
      exact z F2 H2 (e1.trans e2)
  refine ⟨fun {XW sc X e} C h => ?_, fun {XW sc X e} C h => ?_, pw, fun C h => by simp [mt] at h, fun C h => by simp [mt] at h⟩
  · obtain ⟨x, y, r, pos, rfl, h1, h2⟩ := look h
    have w : PE X (.BoolOp .Or (y :: r) pos) (tE X.K T.N.length Φ γ XW b) := by
      rcases h2 with ⟨rfl, h2⟩ | h2
      · exact pe_one (ib.pe C h2)
      · exact ib.pe C h2
    refine (pe_or (ia.pe C h1) w).of fun σ H Q ⟨F, δ, E, k⟩ => ?_
    simp only [ev] at k
    refine tT_tB ⟨F, δ, E.l, kt_bindB k (Ext.refl E.inn) fun q F1 H1 h1 e1 k1 => ?_⟩
    cases q with
    | true => exact kt_bl k1 e1
    | false =>
      show tE X.K T.N.length Φ γ XW b σ H1 Q
      refine ⟨F1, δ, (E.r).ext e1, kt_bind (show Kx _ H (ev Φ γ b δ >>= _) _ from k1) e1 fun d v F2 H2 S2 h2 e2 r2 f2 k2 => ?_⟩
      cases d <;> first | exact k2.elim | skip
      obtain ⟨rfl, _⟩ := rep_bl r2
      exact kt_bl k2 (e1.trans e2)
  · obtain ⟨x, y, r, pos, rfl, h1, h2⟩ := look h
    exact (pw C h).pt
/-- the callee runs; what it raises is wished for at the caller's slots -/
theorem run_fnS {X : Cx} {CX : CXT} {k : Nat} {f : Addr} {fd : FuncData} {ps : List Str} {sp : Sp} {dvs : List V} {ds : List Value} {E : XK} {pins : List (Addr × Obj)} {σ : St} {H : Hp} {s : Shared} {Q : VK} {us : List Value} {vs : List V}
    (Fk : FnOk X.prog X.w X.K X.mg X.base CX k f fd ps sp) (hr : Room k X.A) (hb : Binds X.K fd ps ds) (hd : Vals dvs ds) (hx : ∀ e s', Inv X pins σ H s → CX X.stack H s E e s' → X.xe e s') (I : Inv X pins σ H s) (r : Vals vs us) (h : sp (vs ++ dvs) H Q E) :
    wpAny (model X.prog X.w) X.A (call (.ref f) us) (EP X pins σ Q) X.xe s := by
  have rv : Vals (vs ++ dvs) (us ++ ds) := r.append hd
  have hlen : (us ++ ds).length = ps.length := by rw [← rv.length]; exact Fk.len _ _ _ _ h
  refine wpAny_call (codeAny_mono (Fk.run X.A X.stack s H ⟨us, []⟩ (us ++ ds) (vs ++ dvs) Q E hr I.env0 (hb s us I.kIn hlen) rv h) ?_)
  intro res s' hq
  rcases res with e | fl
  · exact hx e s' I hq
  · cases fl <;> first | exact hq.elim | exact I.after hq
theorem mt_count {sc : Scope} {δ : List D} : ∀ {m : M} {l : List Expr} {ds : List D}, mt T m sc (.es l) = true → ev Φ γ m δ = .ok (.tup ds) → ds.length = l.length := by
  intro m
  induction m with
  | nil =>
    intro l ds h e
    cases l with
    | nil => simp only [ev] at e; cases e; rfl
    | cons => simp [mt] at h
  | cons a as _ ih =>
    intro l ds h e
    cases l with
    | nil => simp [mt] at h
    | cons x l =>
      simp only [mt, Bool.and_eq_true] at h
      simp only [ev] at e
      cases e1 : ev Φ γ a δ with
      | ok x =>
        rw [e1] at e
        cases e2 : ev Φ γ as δ with
        | ok y =>
          rw [e2] at e
          cases y <;> first | (cases e; done) | skip
          cases e
          simp [ih h.2 e2]
        | exc c => rw [e2] at e; cases e
        | bad => rw [e2] at e; cases e
      | exc c => rw [e1] at e; cases e
      | bad => rw [e1] at e; cases e
  | _ => intro l ds h e; simp [mt] at h
theorem pp_call (f : Str) {a : M} (ia : PP T Φ γ a) : PP T Φ γ (.call f a) := by
  refine .plain (fun {XW sc X e} C h => ?_) (fun _ _ => by simp [mt]) (fun _ _ _ => by simp [mt])
  cases e <;> first | (simp [mt] at h; done) | skip
  rename_i fn l kw pos
  cases fn <;> first | (simp [mt] at h; done) | skip
  rename_i x p
  cases l <;> first | (simp [mt] at h; done) | skip
  rename_i e l
  cases kw <;> first | (simp [mt] at h; done) | skip
  simp only [mt, Bool.and_eq_true, decide_eq_true_eq] at h
  obtain ⟨⟨⟨⟨rfl, h1⟩, h2⟩, h3⟩, h4⟩ := h
  obtain ⟨ad, fd, kk, ps, hm, hk, FO, hr, hb⟩ := C.call _ _ h1
  refine ⟨⟨fun pins s σ H Q I ⟨F, δ, E, k⟩ => ?_⟩, rfl⟩
  simp only [ev] at k
  have st : notStar e = true ∧ ∃ a1 a2, a = .cons a1 a2 ∧ mt T a2 sc (.es l) = true := by
    cases a <;> first | (simp [mt] at h4; done) | skip
    simp only [mt, Bool.and_eq_true] at h4
    exact ⟨h4.1.1, _, _, rfl, h4.2⟩
  obtain ⟨st1, a1, a2, rfl, st2⟩ := st
  refine wpAny_Call_Name_kw (ld_glob I (C.gl h2) hm ?_ (okNm_1 h3))
  refine PySem.W.callWith_K (h₀ := X.base) I.ok.mod.kin hk (thn ((ia.pa C h4).run pos pins s σ H (fun vs H1 => ∃ F1 ds, vs.length = l.length + 1 ∧ Same F1 H1 ∧ Reps X.K F1 H1 ds vs [] ∧ Kt X.K (fun c => XW c σ) F1 H1 (Φ x ds) Q) I ⟨F, δ, E, kt_bindL k (Ext.refl E.inn) fun ds vs F1 H1 S1 h1 e1 r1 f1 k1 => ?_⟩) fun us s1 ⟨vs, H1, I1, r, F1, ds, q0, q1, q2, q3⟩ => ⟨I1.kIn, ?_⟩) (star_cons st1) (mt_star st2)
  · have hn : ∀ c, c ∈ S1 → F1 c = none := fun c hc => (reps_mem ds r1 c hc).2
    have ex := fz_ext e1 hn f1
    exact ⟨fz F1 H1 S1, D.frzs ds, by rw [reps_len r1, mt_count h4 h1]; rfl, ex.in', reps_frz (fz_same e1.in' hn) ds r1 fun c hc => fz_at hc, kt_base k1 ex⟩
  · refine run_fnS FO hr hb .nil (C.pass pins σ H1 s1) I1 r ⟨by simpa using q0, F1, ds, q1, by simpa using q2, ?_⟩
    refine kx_wish q3 fun c H' z => ?_
    obtain ⟨Ca, hC⟩ := C.cls c σ H' z
    exact ⟨Ca, hC, rfl, c, Ca, rfl, hC, z⟩
theorem pp_blt (b : Blt) {a : M} (ia : PP T Φ γ a) : PP T Φ γ (.blt b a) := by
  refine .plain (fun {XW sc X e} C h => ?_) (fun _ _ => by simp [mt]) (fun _ _ _ => by simp [mt])
  cases e <;> first | (simp [mt] at h; done) | skip
  rename_i fn l kw pos
  cases fn <;> first | (simp [mt] at h; done) | skip
  rename_i x p
  cases l <;> first | (simp [mt] at h; done) | skip
  rename_i e l
  cases kw <;> first | (simp [mt] at h; done) | skip
  simp only [mt, Bool.and_eq_true, decide_eq_true_eq] at h
  obtain ⟨⟨rfl, h2⟩, h4⟩ := h
  have st : notStar e = true ∧ ∃ a1 a2, a = .cons a1 a2 ∧ mt T a2 sc (.es l) = true := by
    cases a <;> first | (simp [mt] at h4; done) | skip
    simp only [mt, Bool.and_eq_true] at h4
    exact ⟨h4.1.1, _, _, rfl, h4.2⟩
  obtain ⟨st1, a1, a2, rfl, st2⟩ := st
  have hm : X.mg b.py.1 = none := C.bl _ (by cases b <;> simp [Blt.py, bltNames])
  have hu := b.un
  have rd : ∀ σ H Q, tE X.K T.N.length Φ γ XW (.blt b (.cons a1 a2)) σ H Q → tCB (rD X.K XT (bltop b)) (tA X.K T.N.length Φ γ XW (.cons a1 a2)) σ H Q := by
    intro σ H Q ⟨F, δ, E, k⟩
    have k' : Kt X.K (fun c => XW c σ) F H (ev Φ γ (.cons a1 a2) δ >>= fun y => tupOf y >>= fun l => bltop b l) Q := k
    exact ⟨F, δ, E, kt_bindL k' (Ext.refl E.inn) fun ds vs F1 H1 S1 h1 e1 r1 f1 k1 => ⟨F, H, F1, S1, ds, e1, r1, f1, kx_any k1⟩⟩
  refine ⟨?_, rfl⟩
  cases b <;> first
    | exact (pe_callB (blt_ok (XW := XT) C.calm C.units _) (C.gl h2) hm (Blt.boot _) (ia.pa C h4) hu.1 hu.2 (star_cons st1) (mt_star st2)).of rd
    | exact (pe_callTy (blt_ok (XW := XT) C.calm C.units _) (C.gl h2) hm (Blt.boot _) (ia.pa C h4) hu.1 hu.2 (star_cons st1) (mt_star st2)).of rd

theorem pp_isi {a : M} (t : Ty) (ia : PP T Φ γ a) : PP T Φ γ (.isi a t) := by
  refine .plain (fun {XW sc X e} C h => ?_) (fun _ _ => by simp [mt]) (fun _ _ _ => by simp [mt])
  cases e <;> first | (simp [mt] at h; done) | skip
  rename_i fn l kw pos
  cases fn <;> first | (simp [mt] at h; done) | skip
  rename_i x p
  rcases l with _ | ⟨e, _ | ⟨e2, _ | ⟨e3, l⟩⟩⟩ <;> first | (simp [mt] at h; done) | skip
  cases e2 <;> first | (simp [mt] at h; done) | skip
  rename_i y p2
  cases kw <;> first | (simp [mt] at h; done) | skip
  simp only [mt, Bool.and_eq_true, decide_eq_true_eq] at h
  obtain ⟨⟨⟨⟨⟨rfl, h1⟩, rfl⟩, h3⟩, h4⟩, h5⟩ := h
  have hm : X.mg "isinstance" = none := C.bl _ (by simp [bltNames])
  have hy : X.mg (Str.ofString t.name) = none := C.bl _ (by cases t <;> simp [bltNames, Ty.name])
  have pt : PE X (.Name (Str.ofString t.name) p2) (tC (.ty t.name)) := by
    cases t
    · exact pe_bltn (v := .ty "int") (u := .type "int") (C.gl h3) hy (by rfl) rfl
    · exact pe_bltn (v := .ty "bool") (u := .type "bool") (C.gl h3) hy (by rfl) rfl
    · exact pe_bltn (v := .ty "list") (u := .type "list") (C.gl h3) hy (by rfl) rfl
    · exact pe_bltn (v := .ty "tuple") (u := .type "tuple") (C.gl h3) hy (by rfl) rfl
    · exact pe_bltn (v := .ty "str") (u := .type "str") (C.gl h3) hy (by rfl) rfl
  refine ⟨(pe_callB (call_isi) (C.gl h1) hm (by decide +kernel) (pa_cons (ia.pe C h5) (pa_cons pt pa_nil) (star_cons h4)) (by decide) (by decide) (star_cons h4)).of fun σ H Q ⟨F, δ, E, k⟩ => ?_, rfl⟩
  simp only [ev] at k
  refine ⟨F, δ, E, kt_bind k (Ext.refl E.inn) fun d v F1 H1 S1 h1 e1 r1 f1 k1 => ?_⟩
  exact isop_ok ⟨S1, e1, r1, f1⟩ k1

theorem nodup_le {α : Type} [DecidableEq α] : ∀ (l D : List α), l.Nodup → (∀ x, x ∈ l → x ∈ D) → l.length ≤ D.length
  | [], _, _, _ => Nat.zero_le _
  | x :: r, D, h, k => by
    have hx := k x List.mem_cons_self
    have h2 := List.nodup_cons.mp h
    have ih := nodup_le r (D.erase x) h2.2 fun y hy => (List.mem_erase_of_ne (fun e : y = x => h2.1 (by rw [← e]; exact hy))).mpr (k y (List.mem_cons_of_mem _ hy))
    rw [List.length_erase_of_mem hx] at ih
    have := List.length_pos_of_mem hx
    rw [List.length_cons]
    omega
theorem dist_mem {x : List Int} : ∀ {l : List (List Int)}, x ∈ dist l ↔ x ∈ l
  | [] => by simp [dist]
  | y :: r => by
    unfold dist
    split
    · rename_i h
      rw [dist_mem (l := r), List.mem_cons]
      exact ⟨.inr, fun z => z.elim (fun e => by rw [e]; exact h) id⟩
    · rw [List.mem_cons, List.mem_cons, dist_mem (l := r)]
theorem dist_nd : ∀ l : List (List Int), (dist l).Nodup
  | [] => by simp [dist]
  | y :: r => by
    unfold dist
    split
    · exact dist_nd r
    · rename_i h
      exact List.nodup_cons.mpr ⟨fun z => h (dist_mem.mp z), dist_nd r⟩
theorem tups_reps {K : PySem.W.Frag} {F H : Hp} : ∀ {ds : List D} {ns : List (List Int)} {vs : List V} {S : List Addr}, tupsOf ds = some ns → Reps K F H ds vs S →
    ∃ ks : List (Addr × List Int), vs = ks.map (fun p => V.ref p.1) ∧ ks.map (·.2) = ns ∧ ∀ p, p ∈ ks → SqT K H p.1 (p.2.map V.int)
  | [], _, _, _, e, h => by
    simp only [Reps] at h
    simp only [tupsOf, Option.some.injEq] at e
    subst e
    exact ⟨[], by simpa using h.1, rfl, fun _ hp => (List.not_mem_nil hp).elim⟩
  | d :: ds, _, _, _, e, h => by
    obtain ⟨v, vr, S1, S2, rfl, h1, h2, h3, rfl⟩ := reps_uncons h
    cases d <;> first | (simp [tupsOf] at e; done) | skip
    rename_i es
    unfold tupsOf at e
    split at e
    · rename_i a b ha hb
      cases e
      obtain ⟨t, ws, rfl, q1, q2⟩ := rep_tup h1
      rw [ints_reps ha q2] at q1
      obtain ⟨ks, rfl, rfl, q3⟩ := tups_reps hb h2
      refine ⟨(t, a) :: ks, rfl, rfl, fun p hp => ?_⟩
      rcases List.mem_cons.mp hp with rfl | hp
      · exact q1
      · exact q3 p hp
    · cases e
def tLenSetG (K : PySem.W.Frag) (ta : TE) : TE := fun σ H Q => ta σ H fun x H1 => ∃ (l : Addr), x = V.ref l ∧
  ((∃ ns : List Int, SqL K H1 l (ns.map V.int) ∧ ns.length < 4000 ∧ Q (.int ((PyProof.Rows.firstMet (fun i => ns.getD i 0) ns.length).length : Nat)) H1) ∨
   (∃ ks : List (Addr × List Int), SqL K H1 l (ks.map fun p => V.ref p.1) ∧ (∀ p, p ∈ ks → SqT K H1 p.1 (p.2.map V.int)) ∧ ks.length < 8000 ∧ Q (.int ((dist (ks.map (·.2))).length : Nat)) H1))
theorem pe_lenSetG {X : Cx} {a : Expr} {ta : TE} {p p2 q pos : Pos} (hc : X.calm = true) (hu : X.A.units + 3 < cLine) (hg : Gl X "len") (hm : X.mg "len" = none) (hg2 : Gl X "set") (hm2 : X.mg "set" = none) (ha : PE X a ta)
    (na : starEach [a] X.env = (false, eval a X.env) :: starEach [] X.env) : PE X (.Call (.Name "len" p) [.Call (.Name "set" p2) [a] [] q] [] pos) (tLenSetG X.K ta) := by
  constructor
  intro pins s σ H Q I hq
  refine Call_ (ld_blt I hg hm boot_len (PyProof.Rows.callWith_builtin1 (PyProof.Rows.args_cons (Call_ (ld_blt I hg2 hm2 PyProof.Rows.boot_set ?_)) rfl) rfl rfl))
  refine PyProof.Rows.callWith_type1 (PyProof.Rows.args_cons (thn (ha.run pins s σ H _ I hq) fun v s1 z => PyProof.Rows.args_nil ?_) na) na rfl
  obtain ⟨x, H1, J, rv, l, rfl, z⟩ := z
  cases rv
  rcases z with ⟨ns, hl, hn, hq⟩ | ⟨ks, hl, hk, hn, hq⟩
  · obtain ⟨its, rs, pl, _⟩ := J.list hl
    have hs : its.toArray.size = ns.length := by rw [List.size_toArray, ← rs.length, List.length_map]
    refine call_set_list (J.ok.hd hc) pl.isList (ns := ns) (by simpa using rs.ints) (by unfold scanBound; omega) fun g tk hS hk => ?_
    rw [hs] at hS
    have hle := firstMet_length_le (fun i => ns.getD i 0) ns.length
    refine PyProof.Rows.args_nil ?_
    obtain ⟨o, es, ep, t, ho, hex, hd, _, _, _, hf, hz⟩ := hS
    have J2 : Inv X pins σ H1 { s1 with heap := g, toks := tk } := J.kept fun b o e => hk b o (Heap.lt_size e) e
    exact call_len_set ho hex hd hf (by rw [hz]; omega) ⟨.int _, H1, J2.tok _, ⟨_, by rw [hz]⟩, hq⟩
  · obtain ⟨its, rs, pl, _⟩ := J.list hl
    refine Mn.Big.set_of_tups (P := X.prog) (w := X.w) ks (J.ok.hd hc) pl.isList (by simpa using refs_of_vals rs) (fun p hp => J.isT (hk p hp)) hn hu fun g tk ⟨L, es, ep, t, R, got⟩ kp => ?_
    refine PyProof.Rows.args_nil ?_
    have J2 : Inv X pins σ H1 { s1 with heap := g, toks := tk } := J.kept kp
    have hf : t.fits es.size = true := Mn.Big.Sett.fits (s := { s1 with heap := g }) R
    have hsz : es.size = L.length := Mn.Big.Sett.size (s := { s1 with heap := g }) R
    have few := got.len
    obtain ⟨o, ho, hex, hd⟩ := R.ob
    have e1 : L.length = (dist (ks.map (·.2))).length := by
      rw [← List.length_map (f := fun p : Addr × List Int => p.2)]
      refine Nat.le_antisymm (nodup_le _ _ R.nd fun x hx => dist_mem.mpr ?_) (nodup_le _ _ (dist_nd _) fun x hx => ?_)
      · obtain ⟨p, hp, rfl⟩ := List.mem_map.mp hx
        exact List.mem_map.mpr ⟨p, List.mem_of_mem_take (got.sub p hp), rfl⟩
      · obtain ⟨p, hp, rfl⟩ := List.mem_map.mp (dist_mem.mp hx)
        exact got.all p (by rw [List.take_length]; exact hp)
    exact call_len_set ho hex hd hf (by rw [hsz]; omega) ⟨.int _, H1, J2.tok _, ⟨_, by rw [hsz, e1]⟩, hq⟩
theorem pp_lenset {a : M} (ia : PP T Φ γ a) : PP T Φ γ (.lenset a) := by
  refine .plain (fun {XW sc X e} C h => ?_) (fun _ _ => by simp [mt]) (fun _ _ _ => by simp [mt])
  cases e <;> first | (simp [mt] at h; done) | skip
  rename_i fn l kw pos
  cases fn <;> first | (simp [mt] at h; done) | skip
  rename_i x p
  rcases l with _ | ⟨e, _ | ⟨e2, l⟩⟩ <;> first | (simp [mt] at h; done) | skip
  cases e <;> first | (simp [mt] at h; done) | skip
  rename_i fn2 l2 kw2 pos2
  cases fn2 <;> first | (simp [mt] at h; done) | skip
  rename_i y p2
  rcases l2 with _ | ⟨e, _ | ⟨e2, l2⟩⟩ <;> first | (simp [mt] at h; done) | skip
  cases kw2 <;> first | (simp [mt] at h; done) | skip
  cases kw <;> first | (simp [mt] at h; done) | skip
  simp only [mt, Bool.and_eq_true, decide_eq_true_eq] at h
  obtain ⟨⟨⟨⟨⟨rfl, h1⟩, rfl⟩, h3⟩, h4⟩, h5⟩ := h
  refine ⟨(pe_lenSetG C.calm (by have := C.units; omega) (C.gl h1) (C.bl _ (by simp [bltNames])) (C.gl h3) (C.bl _ (by simp [bltNames])) (ia.pe C h5) (star_cons h4)).of fun σ H Q ⟨F, δ, E, k⟩ => ?_, rfl⟩
  simp only [ev] at k
  refine ⟨F, δ, E, kt_bind k (Ext.refl E.inn) fun d v F1 H1 S1 h1 e1 r1 f1 k1 => ?_⟩
  unfold setop at k1
  split at k1
  · split at k1
    · rename_i ns hn
      split at k1
      · rename_i hz
        obtain ⟨p, vs, S', rfl, q1, q2, _⟩ := rep_lst e1.in' r1
        rw [ints_reps hn q2] at q1
        exact ⟨p, rfl, .inl ⟨ns, q1, hz, kt_int k1 e1⟩⟩
      · exact k1.elim
    · split at k1
      · rename_i ks hk
        split at k1
        · rename_i hz
          obtain ⟨p, vs, S', rfl, q1, q2, _⟩ := rep_lst e1.in' r1
          obtain ⟨ls, rfl, rfl, q3⟩ := tups_reps hk q2
          exact ⟨p, rfl, .inr ⟨ls, q1, q3, by simpa using hz, kt_int k1 e1⟩⟩
        · exact k1.elim
      · exact k1.elim
  · exact k1.elim

/-! ### what is walked -/
theorem pp_its {a : M} (ia : PP T Φ γ a) : PP T Φ γ (.its a) := by
  refine ⟨fun C h => by simp [mt] at h, fun C h => by simp [mt] at h, fun C h => by simp [mt] at h, fun C h => by simp [mt] at h, fun {XW sc X tg e} C h => ?_⟩
  simp only [mt] at h
  have pe := ia.pe C h
  refine ⟨fun pins s σ H R I ⟨F, δ, E, k⟩ => ?_⟩
  simp only [evJ] at k
  have hi : (∃ ds, ev Φ γ a δ = .ok (.tup ds)) ∨ ¬ (∃ ds, ev Φ γ a δ = .ok (.tup ds)) := Classical.em _
  have hi2 : (∃ ds, ev Φ γ a δ = .ok (.str ds)) ∨ ¬ (∃ ds, ev Φ γ a δ = .ok (.str ds)) := Classical.em _
  rcases hi2 with ⟨s, hd⟩ | hd2
  · refine (pi_str (tg := tg) pe).run pins _ σ H R I ⟨F, δ, E, kt_bind k (Ext.refl E.inn) fun d v F1 H1 S1 h1 e1 r1 f1 k1 => ?_⟩
    rw [hd] at h1
    cases h1
    have r2 := r1
    obtain ⟨rfl, _⟩ := rep_str r1
    obtain ⟨ds', items, e', hit, q⟩ := k1
    cases e'
    exact ⟨s, rfl, q _ F1 H1 S1 _ e1 (reps_one r2) f1 .str⟩
  rcases hi with ⟨ds, hd⟩ | hd
  · refine (pi_tup (tg := tg) pe).run pins s σ H R I ⟨F, δ, E, kt_bind k (Ext.refl E.inn) fun d v F1 H1 S1 h1 e1 r1 f1 k1 => ?_⟩
    rw [hd] at h1
    cases h1
    obtain ⟨p, vs, rfl, q1, q2⟩ := rep_tup r1
    obtain ⟨ds', items, e', hit, q⟩ := k1
    cases e'
    exact ⟨p, rfl, ⟨vs, q1⟩, q _ F1 H1 S1 _ e1 (reps_one r1) f1 .tup⟩
  · refine (pi_list (tg := tg) pe).run pins s σ H R I ⟨F, δ, E, kt_bind k (Ext.refl E.inn) fun d v F1 H1 S1 h1 e1 r1 f1 k1 => ?_⟩
    obtain ⟨ds', items, e', hit, q⟩ := k1
    cases e'
    cases d <;> first | (simp [itJ, itemsOf] at hit; done) | skip
    · exact absurd ⟨_, h1⟩ hd2
    · exact absurd ⟨_, h1⟩ hd
    · rename_i kk ds
      obtain ⟨p, vs, S', rfl, q1, q2, q3⟩ := rep_lst e1.in' r1
      exact ⟨p, rfl, ⟨vs, q1⟩, q _ F1 H1 S1 _ e1 (reps_one r1) f1 .lst⟩
theorem okR_of {j : Int} (h : okR j = true) : -(2 ^ 62) ≤ j ∧ j < 2 ^ 62 := by
  have : j.natAbs < 4611686018427387904 := of_decide_eq_true h
  omega
theorem it_core {XW : XWs} {sc : Scope} {X : Cx} (C : Cok T Φ γ XW sc X) (kk : Ik) (a : M) {l : List Expr} {tg : Expr} {p pos : Pos} {ta : TA} {tp : TI} (h1 : glB sc kk.nm.1 = true) (h2 : l.length = kk.nm.2) (h3 : kk.needT = false ∨ isTupE tg = true)
    (ns : ∀ e, e ∈ l → notStar e = true) (pa : PA X l ta)
    (mid : ∀ {σ H} {R : It → Hp → Prop} {G : List V → Hp → Prop}, tp σ H R →
      (∀ ds items vs F1 H1 S, itJ (.it kk a) ds = .ok items → Same F1 H1 → Reps X.K F1 H1 ds vs S → (∀ J, Jt X.K (.it kk a) ds vs J → R J H1) → G vs H1) → ta σ H G) : PI X tg (.Call (.Name kk.nm.1 p) l [] pos) tp := by
  have st : ∀ {e l'}, l = e :: l' → starEach (e :: l') X.env = (false, eval e X.env) :: starEach l' X.env ∧ (backTo pos (starEach l' X.env)).any (·.1) = false := by
    intro e l' hl
    subst hl
    exact ⟨star_cons (ns e List.mem_cons_self), stars fun x hx => ns x (List.mem_cons_of_mem _ hx)⟩
  cases kk
  · rcases l with _ | ⟨e, _ | ⟨e2, l⟩⟩ <;> first | (simp [Ik.nm] at h2; done) | skip
    obtain ⟨s1, s2⟩ := st rfl
    refine (pi_range1 (C.gl h1) (C.bl _ (by simp [bltNames, Ik.nm])) pa s1).of fun σ H R q => ?_
    refine mid q fun ds items vs F1 H1 S hit hs rr jt => ?_
    simp only [itJ] at hit
    cases ei : itop .range1 ds with
    | ok y =>
      unfold itop at ei
      split at ei <;> first | (cases ei; done) | skip
      all_goals first | contradiction | skip
      split at ei <;> first | (cases ei; done) | skip
      rename_i hz
      obtain ⟨x, rfl, r⟩ := reps_1 rr
      obtain ⟨rfl, _⟩ := rep_int r
      exact ⟨_, rfl, (okR_of hz).1, (okR_of hz).2, jt _ .r1⟩
    | exc c => rw [ei] at hit; cases hit
    | bad => rw [ei] at hit; cases hit
  · rcases l with _ | ⟨e, _ | ⟨e2, _ | ⟨e3, l⟩⟩⟩ <;> first | (simp [Ik.nm] at h2; done) | skip
    obtain ⟨s1, s2⟩ := st rfl
    have s3 : starEach [e2] X.env = [(false, eval e2 X.env)] := star_cons (ns e2 (by simp))
    refine (pi_range2 (C.gl h1) (C.bl _ (by simp [bltNames, Ik.nm])) pa (by rw [s1, s3]) s3).of fun σ H R q => ?_
    refine mid q fun ds items vs F1 H1 S hit hs rr jt => ?_
    simp only [itJ] at hit
    cases ei : itop .range2 ds with
    | ok y =>
      unfold itop at ei
      split at ei <;> first | (cases ei; done) | skip
      all_goals first | contradiction | skip
      split at ei <;> first | (cases ei; done) | skip
      rename_i hz
      simp only [Bool.and_eq_true] at hz
      obtain ⟨x, y, S1, S2, rfl, r1, r2⟩ := reps_2 rr
      obtain ⟨rfl, _⟩ := rep_int r1
      obtain ⟨rfl, _⟩ := rep_int r2
      exact ⟨_, _, rfl, ⟨(okR_of hz.1).1, (okR_of hz.1).2, (okR_of hz.2).1, (okR_of hz.2).2⟩, jt _ .r2⟩
    | exc c => rw [ei] at hit; cases hit
    | bad => rw [ei] at hit; cases hit
  · rcases l with _ | ⟨e, _ | ⟨e2, _ | ⟨e3, _ | ⟨e4, l⟩⟩⟩⟩ <;> first | (simp [Ik.nm] at h2; done) | skip
    obtain ⟨s1, s2⟩ := st rfl
    refine (pi_range3 (C.gl h1) (C.bl _ (by simp [bltNames, Ik.nm])) pa s1 s2).of fun σ H R q => ?_
    refine mid q fun ds items vs F1 H1 S hit hs rr jt => ?_
    simp only [itJ] at hit
    cases ei : itop .range3 ds with
    | ok y =>
      unfold itop at ei
      split at ei <;> first | (cases ei; done) | skip
      all_goals first | contradiction | skip
      split at ei <;> first | (cases ei; done) | skip
      rename_i hz
      unfold okR3 at hz
      simp only [Bool.and_eq_true, decide_eq_true_eq] at hz
      obtain ⟨v, vr, S1, S2, rfl, r1, r2, _, _⟩ := reps_uncons rr
      obtain ⟨x, y, S1, S2, rfl, r2, r3⟩ := reps_2 r2
      obtain ⟨rfl, _⟩ := rep_int r1
      obtain ⟨rfl, _⟩ := rep_int r2
      obtain ⟨rfl, _⟩ := rep_int r3
      exact ⟨_, _, _, _, rfl, ⟨hz.1.1.1, hz.1.1.2, hz.1.2, (Int.toNat_of_nonneg hz.2).symm⟩, jt _ .r3⟩
    | exc c => rw [ei] at hit; cases hit
    | bad => rw [ei] at hit; cases hit
  · rcases l with _ | ⟨e, _ | ⟨e2, l⟩⟩ <;> first | (simp [Ik.nm] at h2; done) | skip
    obtain ⟨s1, s2⟩ := st rfl
    cases tg <;> first | (simp [Ik.needT, isTupE] at h3; done) | skip
    refine (pi_enum (C.gl h1) (C.bl _ (by simp [bltNames, Ik.nm])) pa s1).of fun σ H R q => ?_
    refine mid q fun ds items vs F1 H1 S hit hs rr jt => ?_
    simp only [itJ] at hit
    cases ei : itop .enum ds with
    | ok y =>
      unfold itop at ei
      split at ei <;> first | (cases ei; done) | skip
      all_goals first | contradiction | skip
      obtain ⟨x, rfl, r⟩ := reps_1 rr
      obtain ⟨p, ws, S', rfl, q1, q2, q3⟩ := rep_lst hs r
      exact ⟨p, ws, rfl, q1, jt _ .en⟩
    | exc c => rw [ei] at hit; cases hit
    | bad => rw [ei] at hit; cases hit
  · rcases l with _ | ⟨e, _ | ⟨e2, _ | ⟨e3, l⟩⟩⟩ <;> first | (simp [Ik.nm] at h2; done) | skip
    obtain ⟨s1, s2⟩ := st rfl
    cases tg <;> first | (simp [Ik.needT, isTupE] at h3; done) | skip
    refine (pi_zip (C.gl h1) (C.bl _ (by simp [bltNames, Ik.nm])) pa s1 s2).of fun σ H R q => ?_
    refine mid q fun ds items vs F1 H1 S hit hs rr jt => ?_
    simp only [itJ] at hit
    cases ei : itop .zip ds with
    | ok y =>
      unfold itop at ei
      split at ei <;> first | (cases ei; done) | skip
      all_goals first | contradiction | skip
      obtain ⟨x, y, S1, S2, rfl, r1, r2⟩ := reps_2 rr
      obtain ⟨p, ws, S', rfl, q1, q2, q3⟩ := rep_lst hs r1
      obtain ⟨p', ws', S'', rfl, q1', q2', q3'⟩ := rep_lst hs r2
      exact ⟨p, p', ws, ws', rfl, q1, q1', jt _ .zp⟩
    | exc c => rw [ei] at hit; cases hit
    | bad => rw [ei] at hit; cases hit
theorem pp_it (kk : Ik) {a : M} (ia : PP T Φ γ a) : PP T Φ γ (.it kk a) := by
  refine ⟨fun C h => by simp [mt] at h, fun C h => by simp [mt] at h, fun C h => by simp [mt] at h, fun C h => by simp [mt] at h, fun {XW sc X tg e} C h => ?_⟩
  cases e <;> first | (simp [mt] at h; done) | skip
  rename_i fn l kw pos
  cases fn <;> first | (simp [mt] at h; done) | skip
  rename_i x p
  cases kw <;> first | (simp [mt] at h; done) | skip
  simp only [mt, Bool.and_eq_true, decide_eq_true_eq, Bool.or_eq_true, Bool.not_eq_true'] at h
  obtain ⟨⟨⟨⟨rfl, h1⟩, h2⟩, h3⟩, h4⟩ := h
  have pa := ia.pa C h4
  have mid : ∀ {σ H} {R : It → Hp → Prop} {G : List V → Hp → Prop}, tJ X.K T.N.length Φ γ XW (.it kk a) σ H R →
      (∀ ds items vs F1 H1 S, itJ (.it kk a) ds = .ok items → Same F1 H1 → Reps X.K F1 H1 ds vs S → (∀ J, Jt X.K (.it kk a) ds vs J → R J H1) → G vs H1) → tA X.K T.N.length Φ γ XW a σ H G := by
    intro σ H R G ⟨F, δ, E, k⟩ g
    refine ⟨F, δ, E, ?_⟩
    have k' : Kx _ H (ev Φ γ a δ) _ := k
    show Kx _ H (ev Φ γ a δ) _
    cases e : ev Φ γ a δ with
    | ok d =>
      rw [e] at k'
      obtain ⟨ds, items, rfl, hit, q⟩ := k'
      exact ⟨ds, rfl, fun vs F' H' S e' r f => g ds items vs F' H' S hit e'.in' r fun J j => q vs F' H' S J e' r f j⟩
    | exc c => rw [e] at k'; exact k'
    | bad => rw [e] at k'; exact k'
  exact it_core C kk a h1 h2 h3 (mt_ns h4) pa mid
end
end Mn

/-! MnEx: further expressions: chains of three, own exceptions asked for, dicts, methods. -/
namespace Mn
open PySem PySem.Spec L2
open PyProof.Rows hiding St

/-! ### a < b < c < d -/
def tChain3 (r r' r'' : R2) (ta tb tc td : TE) : TE := fun σ H Q => ta σ H fun x H1 => tb σ H1 fun y H2 => r x y H2 fun z H3 => ∃ k, z = .bl k ∧
  (if k = true then tc σ H3 fun w H4 => r' y w H4 fun z H5 => ∃ k, z = .bl k ∧ (if k = true then td σ H5 fun v H6 => r'' w v H6 Q else Q (.bl false) H5) else Q (.bl false) H3)
section
variable {X : Cx} {a b c d : Expr} {ta tb tc td : TE} {pos : Pos}
theorem pe_chain3 {op op' op'' : CmpOp} {r r' r'' : R2} (ho : OpR X (compareOp op) r) (ho' : OpR X (compareOp op') r') (ho'' : OpR X (compareOp op'') r'') (ha : PE X a ta) (hb : PE X b tb) (hc : PE X c tc) (hd : PE X d td)
    (hm : lastMarks [op, op', op''] [b, c, d] = false) : PE X (.Compare a [op, op', op''] [b, c, d] pos) (tChain3 r r' r'' ta tb tc td) := by
  refine ⟨fun pins s σ H Q I h => ?_⟩
  refine Compare_chain (thn (ha.run pins s σ H _ I h) fun v s1 ⟨x, H1, I1, r1, q1⟩ => chain_link (thn (hb.run pins s1 σ H1 _ I1 q1) fun u s2 ⟨y, H2, I2, r2, q2⟩ =>
    thn (ho pins s2 σ H2 x y v u _ I2 r1 r2 q2) fun d s3 ⟨z, H3, I3, r3, k, e, q3⟩ => ?_)) hm
  subst e
  cases r3
  refine wpAny_truthy_bool ?_
  cases k with
  | false => exact ite_ff ⟨.bl false, H3, I3, rfl, q3⟩
  | true =>
    refine ite_tt (chain_link (thn (hc.run pins s3 σ H3 _ I3 q3) fun w' s4 ⟨z', H4, I4, r4, q4⟩ => thn (ho' pins s4 σ H4 y z' u w' _ I4 r2 r4 q4) fun d s5 ⟨z, H5, I5, r5, k, e, q5⟩ => ?_))
    subst e
    cases r5
    refine wpAny_truthy_bool ?_
    cases k with
    | false => exact ite_ff ⟨.bl false, H5, I5, rfl, q5⟩
    | true => exact ite_tt (chain_last (thn (hd.run pins s5 σ H5 _ I5 q5) fun w2 s6 ⟨z2, H6, I6, r6, q6⟩ => ho'' pins s6 σ H6 z' z2 w' w2 Q I6 r4 r6 q6))
theorem pt_chain3 {op op' op'' : CmpOp} {r r' r'' : R2} (ho : OpR X (compareOp op) r) (ho' : OpR X (compareOp op') r') (ho'' : OpR X (compareOp op'') r'') (ha : PE X a ta) (hb : PE X b tb) (hc : PE X c tc) (hd : PE X d td)
    (hm : lastMarks [op, op', op''] [b, c, d] = false) : PT X (.Compare a [op, op', op''] [b, c, d] pos) (tTest (tChain3 r r' r'' ta tb tc td)) := by
  refine ⟨fun pins s σ H Q I h => ?_⟩
  refine isTrue_chain (thn (ha.run pins s σ H _ I h) fun v s1 ⟨x, H1, I1, r1, q1⟩ => test_link (thn (hb.run pins s1 σ H1 _ I1 q1) fun u s2 ⟨y, H2, I2, r2, q2⟩ =>
    thn (ho pins s2 σ H2 x y v u _ I2 r1 r2 q2) fun d s3 ⟨z, H3, I3, r3, k, e, q3⟩ => ?_)) hm
  subst e
  cases r3
  refine wpAny_truthy_bool ?_
  cases k with
  | false =>
    obtain ⟨k', e', q'⟩ := q3
    cases e'
    exact ite_ff ⟨H3, I3, q'⟩
  | true =>
    refine ite_tt (test_link (thn (hc.run pins s3 σ H3 _ I3 q3) fun w' s4 ⟨z', H4, I4, r4, q4⟩ => thn (ho' pins s4 σ H4 y z' u w' _ I4 r2 r4 q4) fun d s5 ⟨z, H5, I5, r5, k, e, q5⟩ => ?_))
    subst e
    cases r5
    refine wpAny_truthy_bool ?_
    cases k with
    | false =>
      obtain ⟨k', e', q'⟩ := q5
      cases e'
      exact ite_ff ⟨H5, I5, q'⟩
    | true =>
      refine ite_tt (test_last (thn (hd.run pins s5 σ H5 _ I5 q5) fun w2 s6 ⟨z2, H6, I6, r6, q6⟩ => thn (ho'' pins s6 σ H6 z' z2 w' w2 _ I6 r4 r6 q6) fun d' s7 ⟨z7, H7, I7, r7, k7, e7, q7⟩ => ?_))
      subst e7
      cases r7
      exact wpAny_truthy_bool ⟨H7, I7, q7⟩
end
section
variable {T : Tab} {Φ : Fn} {γ : Gn}
theorem pp_chain3 (o1 o2 o3 : Cop) {a b c d : M} (ia : PP T Φ γ a) (ib : PP T Φ γ b) (ic : PP T Φ γ c) (id' : PP T Φ γ d) : PP T Φ γ (.chain3 o1 o2 o3 a b c d) := by
  have look : ∀ {sc e}, mt T (.chain3 o1 o2 o3 a b c d) sc (.ex e) = true → ∃ x y z w pos, e = .Compare x [o1.py, o2.py, o3.py] [y, z, w] pos ∧ lastMarks [o1.py, o2.py, o3.py] [y, z, w] = false ∧ mt T a sc (.ex x) = true ∧ mt T b sc (.ex y) = true ∧ mt T c sc (.ex z) = true ∧ mt T d sc (.ex w) = true := by
    intro sc e h
    cases e <;> first | (simp [mt] at h; done) | skip
    rename_i x os ys pos
    rcases os with _ | ⟨p1, _ | ⟨p2, _ | ⟨p3, _ | ⟨p4, os⟩⟩⟩⟩ <;> first | (simp [mt] at h; done) | skip
    rcases ys with _ | ⟨y, _ | ⟨z, _ | ⟨w, _ | ⟨w2, ys⟩⟩⟩⟩ <;> first | (simp [mt] at h; done) | skip
    simp only [mt, Bool.and_eq_true, decide_eq_true_eq, Bool.not_eq_true'] at h
    obtain ⟨⟨⟨⟨⟨⟨⟨rfl, rfl⟩, rfl⟩, h0⟩, h1⟩, h2⟩, h3⟩, h4⟩ := h
    exact ⟨x, y, z, w, pos, rfl, h0, h1, h2, h3, h4⟩
  have main : ∀ {XW sc X} (C : Cok T Φ γ XW sc X) {σ H Q}, tE X.K T.N.length Φ γ XW (.chain3 o1 o2 o3 a b c d) σ H Q → tChain3 (r2D X.K XT (cmpop o1)) (r2D X.K XT (cmpop o2)) (r2D X.K XT (cmpop o3)) (tE X.K T.N.length Φ γ XW a) (tE X.K T.N.length Φ γ XW b) (tE X.K T.N.length Φ γ XW c) (tE X.K T.N.length Φ γ XW d) σ H Q := by
    intro XW sc X C σ H Q ⟨F, δ, E, k⟩
    simp only [ev] at k
    have E' : EnvF X.K T.N.length (a.uses ++ b.uses) F H σ δ := E.sub fun i hi => by
      simp only [M.uses, List.mem_append] at hi ⊢
      rcases hi with h | h
      · exact .inl h
      · exact .inr (.inl h)
    have Ec : EnvF X.K T.N.length c.uses F H σ δ := E.sub fun i hi => by
      simp only [M.uses, List.mem_append]
      exact .inr (.inr (.inl hi))
    have Ed : EnvF X.K T.N.length d.uses F H σ δ := E.sub fun i hi => by
      simp only [M.uses, List.mem_append]
      exact .inr (.inr (.inr hi))
    refine two_step E' k fun x y F2 H2 u v E2 t q => ?_
    obtain ⟨S, U, e, r1, r2, f1, f2, ap⟩ := id t.ex
    cases x <;> first | exact q.elim | skip
    rename_i i
    cases y <;> first | exact q.elim | skip
    rename_i j
    obtain ⟨rfl, rfl⟩ := rep_int r1
    obtain ⟨rfl, rfl⟩ := rep_int r2
    refine ⟨F2, H2, F2, .int i, .int j, ⟨[], [], Ext.refl e.in', r1, r2, .nil, .nil, fun _ h => nomatch h⟩, ?_⟩
    refine kx_any (kx_bind (XW := fun c => XW c σ) (show Kx _ H (cmpop o1 (.int i) (.int j) >>= _) _ from q) e.h fun dd hd q1 v F3 H3 S3 e3 r3 f3 => ?_)
    cases dd <;> first | exact q1.elim | skip
    rename_i k
    obtain ⟨rfl, _⟩ := rep_bl r3
    refine ⟨k, rfl, ?_⟩
    cases k with
    | false => exact kt_bl q1 (e.trans e3)
    | true =>
      show tE X.K T.N.length Φ γ XW c σ H3 _
      refine ⟨F3, δ, Ec.ext (e.trans e3), kt_bind (show Kx _ H (ev Φ γ c δ >>= _) _ from q1) (e.trans e3) fun dz vz F4 H4 S4 h4 e4 r4 f4 q4 => ?_⟩
      cases dz <;> first | exact q4.elim | skip
      rename_i l
      obtain ⟨rfl, rfl⟩ := rep_int r4
      have eA := (e.trans e3).trans e4
      refine ⟨F4, H4, F4, .int j, .int l, ⟨[], [], Ext.refl eA.in', rep_ext (e3.trans e4) r2, r4, .nil, .nil, fun _ h => nomatch h⟩, ?_⟩
      refine kx_any (kx_bind (XW := fun c => XW c σ) (show Kx _ H (cmpop o2 (.int j) (.int l) >>= _) _ from q4) eA.h fun dd hd q5 v F5 H5 S5 e5 r5 f5 => ?_)
      cases dd <;> first | exact q5.elim | skip
      rename_i k
      obtain ⟨rfl, _⟩ := rep_bl r5
      refine ⟨k, rfl, ?_⟩
      cases k with
      | false => exact kt_bl q5 (eA.trans e5)
      | true =>
        show tE X.K T.N.length Φ γ XW d σ H5 _
        refine ⟨F5, δ, Ed.ext (eA.trans e5), kt_bind (show Kx _ H (ev Φ γ d δ >>= _) _ from q5) (eA.trans e5) fun dz vz F6 H6 S6 h6 e6 r6 f6 q6 => ?_⟩
        refine ⟨F, H, F6, .int l, dz, ⟨[], S6, (eA.trans e5).trans e6, rep_ext (e5.trans e6) r4, r6, .nil, f6.mono (eA.trans e5).h, fun _ h => nomatch h⟩, ?_⟩
        refine kx_any (kx_bind (XW := fun c => XW c σ) (show Kx _ H (cmpop o3 (.int l) dz >>= _) _ from q6) (.refl _) fun d hd q7 => ?_)
        cases d <;> first | exact q7.elim | exact q7
  refine ⟨fun {XW sc X e} C h => ?_, fun {XW sc X e} C h => ?_, fun {XW sc X o vs pos} C h => ?_, fun C h => by simp [mt] at h, fun C h => by simp [mt] at h⟩
  · obtain ⟨x, y, z, w, pos, rfl, h0, h1, h2, h3, h4⟩ := look h
    exact (pe_chain3 (cop_ok (XW := XT) C.units o1) (cop_ok (XW := XT) C.units o2) (cop_ok (XW := XT) C.units o3) (ia.pe C h1) (ib.pe C h2) (ic.pe C h3) (id'.pe C h4) h0).of fun σ H Q q => main C q
  · obtain ⟨x, y, z, w, pos, rfl, h0, h1, h2, h3, h4⟩ := look h
    exact (pt_chain3 (cop_ok (XW := XT) C.units o1) (cop_ok (XW := XT) C.units o2) (cop_ok (XW := XT) C.units o3) (ia.pe C h1) (ib.pe C h2) (ic.pe C h3) (id'.pe C h4) h0).of fun σ H Q q => main C (tT_tB q)
  · obtain ⟨x, y, z, w, pos, e, _⟩ := look h
    cases e

/-! ### isinstance of an own exception -/
theorem pp_isx {a : M} (t : Str) (ia : PP T Φ γ a) : PP T Φ γ (.isx a t) := by
  refine .plain (fun {XW sc X e} C h => ?_) (fun _ _ => by simp [mt]) (fun _ _ _ => by simp [mt])
  cases e <;> first | (simp [mt] at h; done) | skip
  rename_i fn l kw pos
  cases fn <;> first | (simp [mt] at h; done) | skip
  rename_i x p
  rcases l with _ | ⟨e, _ | ⟨e2, _ | ⟨e3, l⟩⟩⟩ <;> first | (simp [mt] at h; done) | skip
  cases e2 <;> first | (simp [mt] at h; done) | skip
  rename_i y p2
  cases kw <;> first | (simp [mt] at h; done) | skip
  simp only [mt, Bool.and_eq_true, decide_eq_true_eq] at h
  obtain ⟨⟨⟨⟨⟨⟨⟨⟨rfl, h1⟩, rfl⟩, h3⟩, h3'⟩, h4⟩, hx⟩, h5⟩, h6⟩ := h
  have EK := C.exk hx
  have hm : X.mg "isinstance" = none := C.bl _ (by simp [bltNames])
  -- the class that is asked for
  have cls : ∃ v cv, PE X (.Name y p2) (tC v) ∧ (∀ u, RelV v u → u = cv) ∧ ∀ c, c ∈ exNames → PySem.W.kitOne X.K (.ref (He.ga X.K c)) cv = some (isE c y) := by
    rcases List.mem_cons.mp h5 with rfl | h5'
    · exact ⟨.ty "ValueError", .type "ValueError", pe_bltn (C.gl h3) (C.bl _ (by simp [bltNames])) (by decide +kernel) rfl (by decide) (by decide), fun u hu => hu, fun c hc => by rw [EK.kiv c hc]; simp [isE]⟩
    · have hg : X.mg y = some (.ref (He.ga X.K y)) := by
        rcases List.mem_cons.mp h5' with rfl | z
        · exact EK.te
        · exact EK.nm y z
      exact ⟨.ref (He.ga X.K y), .ref (He.ga X.K y), pe_glob (C.gl h3) hg rfl (okNm_1 h3'), fun u hu => hu, fun c hc => EK.kit c hc y h5'⟩
  obtain ⟨v, cv, pv, rv, kit⟩ := cls
  refine ⟨(pe_callB call_isV (C.gl h1) hm (by decide +kernel) (pa_cons (ia.pe C h6) (pa_cons pv pa_nil) (star_cons h4)) (by decide) (by decide) (star_cons h4)).of fun σ H Q ⟨F, δ, E, k⟩ => ?_, rfl⟩
  simp only [ev] at k
  refine ⟨F, δ, E, kt_bind k (Ext.refl E.inn) fun d w F1 H1 S1 h1 e1 r1 f1 k1 => ?_⟩
  unfold isxop at k1
  split at k1
  · split at k1
    · rename_i hc
      obtain ⟨a, rfl, ha⟩ := rep_exc r1
      exact ⟨a, _, v, cv, _, rfl, ha, EK.cl _ hc, rv, kit _ hc, kt_bl k1 e1⟩
    · exact k1.elim
  · exact k1.elim

/-! ### dicts -/
theorem rep_own_dct {K : PySem.W.Frag} {F H : Hp} {a : Addr} {c : Bool} {ks vs : List D} {ps us : List V} (h : H a = some (dO c a ks ps us)) (f : F a = none) (r1 : Reps K F H ks ps []) (r2 : Reps K F H vs us []) (wf : dwf c ks vs = true) : Rep K F H (.dct .own c ks vs) (.ref a) [a] := by
  simp only [Rep]
  exact ⟨a, ps, us, rfl, h, f, r1, r2, wf, rfl⟩
theorem kt_dct {K : PySem.W.Frag} {XW : XWt} {FB HB F H : Hp} {Q : VK} {c : Bool} {ks vs : List D} (h : Kt K XW FB HB (.ok (.dct .own c ks vs)) Q) (e : Ext FB HB F H) {ps us : List V} (r1 : Reps K F H ks ps []) (r2 : Reps K F H vs us []) (wf : dwf c ks vs = true) {p : Addr} (hp : H p = none) :
    Q (.ref p) (upd H p (dO c p ks ps us)) := by
  have x := ext_step (o := dO c p ks ps us) e.in' hp
  exact h _ F _ [p] (e.trans x) (rep_own_dct upd_same (free_in e.in' hp) (reps_ext x r1) (reps_ext x r2) wf) fun a ha => by
    simp only [List.mem_singleton] at ha
    subst ha
    exact e.h.free hp
theorem nd_empty {P : Program} {w : World} {H : Hp} (h : Heap) (hb : sysModules < h.objs.size) : ObjOk P w H (h.push { cls := .type "dict", data := .dict #[] }) h.objs.size (NdO h.objs.size []) :=
  nd_new (P := P) (w := w) (xs := []) (Nat.zero_le _) (beq_eq_false_iff_ne.mpr (Ne.symm (Nat.ne_of_lt hb))) .nil (fun x hx => (List.not_mem_nil hx).elim) (Heap.DictOfH.new h)
theorem pe_dnewN {X : Cx} {pos : Pos} : PE X (.Dict [] [] pos) (fun _ H Q => ∀ p, H p = none → Q (.ref p) (upd H p (NdO p []))) := ⟨fun pins s σ H Q I h =>
  wpAny_Dict_empty ⟨.ref s.heap.objs.size, _, I.laid (a := s.heap.objs.size) (o := NdO s.heap.objs.size []) (t' := s.toks) (fun _ _ q => Heap.get?_push_of_some _ q) (Nat.le_refl _) (nd_empty s.heap I.big), rfl, h _ (I.hok.fresh (Nat.le_refl _))⟩⟩
theorem pp_dnew (c : Bool) : PP T Φ γ (.dnew c) := by
  refine .plain (fun {XW sc X e} C h => ?_) (fun _ _ => by simp [mt]) (fun _ _ _ => by simp [mt])
  cases e <;> first | (simp [mt] at h; done) | skip
  rename_i ks vs pos
  cases ks <;> first | (simp [mt] at h; done) | skip
  cases vs <;> first | (simp [mt] at h; done) | skip
  refine ⟨?_, rfl⟩
  cases c with
  | true => exact pe_dnewK.of fun σ H Q ⟨F, δ, E, k⟩ p hp => kt_dct (c := true) (ps := []) (us := []) k (Ext.refl E.inn) reps_nil' reps_nil' (by decide) hp
  | false => exact pe_dnewN.of fun σ H Q ⟨F, δ, E, k⟩ p hp => kt_dct (c := false) (ps := []) (us := []) k (Ext.refl E.inn) reps_nil' reps_nil' (by decide) hp
/-- {k: v}, k a tuple -/
def tDisN (tk tv : TE) : TE := fun σ H Q => ∀ p, H p = none → tk σ (upd H p (NdO p [])) fun x H1 => tv σ H1 fun y H2 => H2 p = some (NdO p []) ∧
  ∃ (K : PySem.W.Frag) (F : Hp) (d : D) (z : NestedKey) (b : Addr), x = .ref b ∧ d.key = some z ∧ z.depth ≤ 8 ∧ Rep K F H2 d x [] ∧ Q (.ref p) (upd H2 p (NdO p [(z, b, y)]))
theorem pe_disN {X : Cx} {k v : Expr} {tk tv : TE} {pos : Pos} (hu : X.A.units + 66 < cLine) (hk : PE X k tk) (hv : PE X v tv) : PE X (.Dict [some k] [v] pos) (tDisN tk tv) := by
  refine ⟨fun pins s σ H Q I q => ?_⟩
  have hn := I.hok.fresh (Nat.le_refl s.heap.objs.size)
  have I1 := I.laid (a := s.heap.objs.size) (o := NdO s.heap.objs.size []) (h' := s.heap.push { cls := .type "dict", data := .dict #[] }) (t' := s.toks) (fun _ _ q => Heap.get?_push_of_some _ q) (Nat.le_refl _) (nd_empty s.heap I.big)
  have hn1 := pairTrees_length [some k] [v] X.env pos rfl rfl
  have hsh := zip_pairTrees [some k] [v] X.env pos rfl rfl
  rw [arm_eval_Dict, hsh, dictDisplay_pairs (pairTrees [some k] [v] X.env pos) (by intro e; rw [e] at hn1; cases hn1) (by rw [hn1]; exact Nat.le_of_ble_eq_true rfl)]
  refine wpAny_bind (wpAny_standAt (wpAny_bind (wpAny_subDictH (knd := nestedKind X.prog X.w) (by show X.A.units + 8 < cLine; omega) (by rw [hn1]; exact Nat.le_of_ble_eq_true rfl) ?_)))
  refine pairTrees_cons_walk (thn (hk.run pins _ σ _ _ I1 (q _ hn)) fun u s1 ⟨x, H1, I2, rx, q1⟩ => thn (hv.run pins s1 σ H1 _ I2 q1) fun w2 s2 ⟨y, H2, I3, ry, e2, K, F, d, z, b, ex, ez, hz, rd, q2⟩ => pairTrees_nil_walk ?_)
  subst ex
  cases rx
  have ok := I3.hok
  obtain ⟨_, hd, xs, rs, o, ds, ep, h1, h2, h3, h4, h5⟩ := (I3.hok _ _ e2).1
  cases rs
  have new : s2.heap.DictOfH (nestedKind X.prog X.w) s.heap.objs.size [] := ⟨o, ds, ep, h1, h2, h3, h4, fun x hx => (List.not_mem_nil hx).elim, h5⟩
  refine ⟨[(z, b, w2)], ⟨rfl, rfl, ⟨nested_is ok d ez rd rfl, hz⟩, trivial⟩, new, fun h' tk' dd' hs' => wpAny_pure ⟨.ref s.heap.objs.size, _, ?_, rfl, q2⟩⟩
  have he : ∃ q, h'.get? s.heap.objs.size = some q := let ⟨q, _, _, hq, _⟩ := dd'; ⟨q, hq⟩
  have dd2 : h'.DictOfH (nestedKind X.prog X.w) s.heap.objs.size [(z, b, w2)] := dd'
  exact d_write I3 (by rw [e2]; trivial) hs' he (nd_new (xs := [(z, b, w2)]) (by rw [sizeLine_eq]; exact Nat.le_of_ble_eq_true rfl) hd (.cons ⟨rfl, rfl, ry⟩ .nil) (fun x hx => by
    simp only [List.mem_singleton] at hx
    subst hx
    exact (hash0_eq X.w d ez).symm) dd2)
theorem same_upd {H : Hp} {p : Addr} {o : HO} (h : H p = none) : Same H (upd H p o) := same_new h
theorem pp_dis1 (c : Bool) {a b : M} (ia : PP T Φ γ a) (ib : PP T Φ γ b) : PP T Φ γ (.dis1 c a b) := by
  refine .plain (fun {XW sc X e} C h => ?_) (fun _ _ => by simp [mt]) (fun _ _ _ => by simp [mt])
  cases e <;> first | (simp [mt] at h; done) | skip
  rename_i ks vs pos
  rcases ks with _ | ⟨k, _ | ⟨k2, ks⟩⟩ <;> first | (simp [mt] at h; done) | skip
  cases k <;> first | (simp [mt] at h; done) | skip
  rename_i k
  rcases vs with _ | ⟨v, _ | ⟨v2, vs⟩⟩ <;> first | (simp [mt] at h; done) | skip
  simp only [mt, Bool.and_eq_true] at h
  refine ⟨?_, rfl⟩
  -- what is made of the two
  have step : ∀ {σ H Q p o}, H p = none → tE X.K T.N.length Φ γ XW (.dis1 c a b) σ H Q → tE X.K T.N.length Φ γ XW a σ (upd H p o) fun x H1 => tE X.K T.N.length Φ γ XW b σ H1 fun y H2 => H2 p = some o ∧
      ∃ F kd vd, keyOk c kd = true ∧ vd.flat = true ∧ Rep X.K F H2 kd x [] ∧ Rep X.K F H2 vd y [] ∧ ∀ o', (∀ b u, b ≠ p → H2 b = some u → (upd H2 p o') b = some u) → Off H2 (upd H2 p o') p → o' = dO c p [kd] [x] [y] → Q (.ref p) (upd H2 p o') := by
    intro σ H Q p o hp ⟨F, δ, E, k⟩
    have x0 := ext_step (o := o) E.inn hp
    have k' : Kx (fun c => XW c σ) H (ev Φ γ a δ >>= fun x => ev Φ γ b δ >>= fun y => dis1op c x y) _ := k
    refine ⟨F, δ, (E.ext x0).l, kt_bind k' x0 fun kd x F1 H1 S1 h1 e1 r1 f1 k1 => ?_⟩
    refine ⟨F1, δ, ((E.ext x0).r).ext e1, kt_bind k1 (x0.trans e1) fun vd y F2 H2 S2 h2 e2 r2 f2 k2 => ?_⟩
    have hp2 : H2 p = some o := (e1.trans e2).h _ _ upd_same
    refine ⟨hp2, ?_⟩
    unfold dis1op at k2
    split at k2
    · rename_i hz
      simp only [Bool.and_eq_true] at hz
      obtain ⟨rfl, _⟩ := rep_flat (F' := F1) kd (key_flat kd (keyOk_key hz.1)) r1
      obtain ⟨rfl, _⟩ := rep_flat (F' := F2) vd hz.2 r2
      have r1' := rep_ext e2 r1
      have eA := (x0.trans e1).trans e2
      have fp : F2 p = none := (e1.trans e2).new p (by rw [upd_same]; exact fun z => nomatch z) (free_in E.inn hp)
      refine ⟨F2, kd, vd, hz.1, hz.2, r1', r2, fun o' hk of eo => ?_⟩
      subst eo
      have exu : Ext F H F2 (upd H2 p (dO c p [kd] [x] [y])) := ⟨eA.f, fun b u z => by
        have hb : b ≠ p := fun e => by rw [e, hp] at z; cases z
        exact hk b u hb (eA.h _ _ z), fun b u z => by
        have hb : b ≠ p := fun e => by rw [e, fp] at z; cases z
        exact hk b u hb (eA.in' _ _ z), eA.new⟩
      have q1 : Reps X.K F2 (upd H2 p (dO c p [kd] [x] [y])) [kd] [x] [] := by simpa using reps_one (rep_off of kd r1' (fun z => (List.not_mem_nil z).elim))
      have q2 : Reps X.K F2 (upd H2 p (dO c p [kd] [x] [y])) [vd] [y] [] := by simpa using reps_one (rep_off of vd r2 (fun z => (List.not_mem_nil z).elim))
      refine k2 _ F2 _ [p] exu (rep_own_dct upd_same fp q1 q2 (dwf_mk (by simpa using hz.1) (by simp [D.flats, hz.2]) rfl)) fun b hb => ?_
      simp only [List.mem_singleton] at hb
      subst hb
      exact hp
    · exact k2.elim
  cases c with
  | true =>
    refine (pe_disp (pps_cons (ia.pe C h.1) (ib.pe C h.2) pps_nil) rfl rfl (by simp) (Nat.le_of_ble_eq_true rfl)).of fun σ H Q q p hp => ?_
    have z := step (o := .dK []) hp q
    obtain ⟨F, δ, E, k⟩ := z
    refine ⟨F, δ, E, ?_⟩
    have mono : ∀ {XW' : XWt} {FB HB : Hp} {r : R D} {Q Q' : VK}, Kt X.K XW' FB HB r Q → (∀ v H, Q v H → Q' v H) → Kt X.K XW' FB HB r Q' := fun {XW' FB HB r Q Q'} h k => by
      cases r with
      | ok d => exact fun v F' H' S a b c => k _ _ (h v F' H' S a b c)
      | exc c => exact h
      | bad => exact h
    refine mono k fun x H1 ⟨F1, δ1, E1, k1⟩ => ⟨F1, δ1, E1, mono k1 fun y H2 ⟨e2, F2, kd, vd, q1, q2, q3, q4, q5⟩ => ⟨e2, ?_⟩⟩
    obtain ⟨i, rfl⟩ := keyOk_int q1
    refine ⟨[(.inl i, y)], by rw [key_v (X := X) q3]; rfl, Nat.le_of_ble_eq_true rfl, ?_⟩
    refine q5 _ (fun b u hb e => by rw [upd_ne hb]; exact e) ⟨fun b o hb e => by rw [upd_ne hb]; exact e, fun ys e => (by rw [e2] at e; cases e), fun o u e => (by rw [e2] at e; cases e), fun cls e => (by rw [e2] at e; unfold ExV at e; cases e)⟩ rfl
  | false =>
    refine (pe_disN C.units (ia.pe C h.1) (ib.pe C h.2)).of fun σ H Q q p hp => ?_
    have z := step (o := NdO p []) hp q
    obtain ⟨F, δ, E, k⟩ := z
    refine ⟨F, δ, E, ?_⟩
    have mono : ∀ {XW' : XWt} {FB HB : Hp} {r : R D} {Q Q' : VK}, Kt X.K XW' FB HB r Q → (∀ v H, Q v H → Q' v H) → Kt X.K XW' FB HB r Q' := fun {XW' FB HB r Q Q'} h k => by
      cases r with
      | ok d => exact fun v F' H' S a b c => k _ _ (h v F' H' S a b c)
      | exc c => exact h
      | bad => exact h
    refine mono k fun x H1 ⟨F1, δ1, E1, k1⟩ => ⟨F1, δ1, E1, mono k1 fun y H2 ⟨e2, F2, kd, vd, q1, q2, q3, q4, q5⟩ => ⟨e2, ?_⟩⟩
    obtain ⟨ds, z, rfl, ez, hz⟩ := keyOk_tup q1
    obtain ⟨t, ws, rfl, _⟩ := rep_tupH q3
    refine ⟨X.K, F2, _, z, t, rfl, ez, hz, q3, ?_⟩
    refine q5 _ (fun b u hb e => by rw [upd_ne hb]; exact e) ⟨fun b o hb e => by rw [upd_ne hb]; exact e, fun ys e => (by rw [e2] at e; cases e), fun o u e => (by rw [e2] at e; cases e), fun cls e => exv_nd (Option.some.inj (e.symm.trans e2))⟩ ?_
    show NdO p [(z, t, y)] = NdO p [(keyN (.tup ds), t, y)]
    rw [keyN_of ez]
theorem base_of {e : Expr} (h : baseB e = true) (nm : Str) (env : Env) : attributeBase e nm env (eval e env) = eval e env := by
  cases e <;> first | rfl | (simp [baseB] at h)
theorem kt_mono {K : PySem.W.Frag} {XW' : XWt} {FB HB : Hp} {r : R D} {Q Q' : VK} (h : Kt K XW' FB HB r Q) (k : ∀ v H, Q v H → Q' v H) : Kt K XW' FB HB r Q' := by
  cases r with
  | ok d => exact fun v F' H' S a b c => k _ _ (h v F' H' S a b c)
  | exc c => exact h
  | bad => exact h
theorem dis2_kv {i j : Int} {y w : V} {v u : D} : mergeK [] [(Sum.inl i, y), (Sum.inl j, w)] = kvI (dput [D.int i] [v] (.int j) u).1 (if i = j then [w] else [y, w]) := by
  have ek : ((D.int i).key = (D.int j).key) ↔ i = j := by simp [D.key]
  unfold dput dfind dfind drepl drepl
  simp only [ek]
  by_cases e : i = j
  · subst e
    simp [mergeK, putK, kvI]
  · have e' : ¬ (Sum.inl i : Key) = Sum.inl j := fun z => e (Sum.inl.inj z)
    simp [mergeK, putK, kvI, e]
theorem pp_dis2 {a b c d : M} (ia : PP T Φ γ a) (ib : PP T Φ γ b) (ic : PP T Φ γ c) (id' : PP T Φ γ d) : PP T Φ γ (.dis2 a b c d) := by
  refine .plain (fun {XW sc X e} C h => ?_) (fun _ _ => by simp [mt]) (fun _ _ _ => by simp [mt])
  cases e <;> first | (simp [mt] at h; done) | skip
  rename_i ks vs pos
  rcases ks with _ | ⟨k, _ | ⟨k2, _ | ⟨k3, ks⟩⟩⟩ <;> first | (simp [mt] at h; done) | (cases k <;> simp [mt] at h; done) | skip
  cases k <;> first | (simp [mt] at h; done) | skip
  cases k2 <;> first | (simp [mt] at h; done) | skip
  rcases vs with _ | ⟨v, _ | ⟨v2, _ | ⟨v3, vs⟩⟩⟩ <;> first | (simp [mt] at h; done) | skip
  simp only [mt, Bool.and_eq_true] at h
  obtain ⟨⟨⟨h1, h2⟩, h3⟩, h4⟩ := h
  refine ⟨(pe_disp (pps_cons (ia.pe C h1) (ib.pe C h2) (pps_cons (ic.pe C h3) (id'.pe C h4) pps_nil)) rfl rfl (by simp) (Nat.le_of_ble_eq_true rfl)).of fun σ H Q ⟨F, δ, E, k⟩ p hp => ?_, rfl⟩
  have x0 := ext_step (o := HO.dK []) E.inn hp
  have k' : Kx (fun c => XW c σ) H (ev Φ γ a δ >>= fun x => ev Φ γ b δ >>= fun y => ev Φ γ c δ >>= fun z => ev Φ γ d δ >>= fun w => dis2op x y z w) _ := k
  refine ⟨F, δ, (E.ext x0).l, kt_bind k' x0 fun kd x F1 H1 S1 _ e1 r1 f1 k1 => ?_⟩
  have x1 := x0.trans e1
  refine ⟨F1, δ, (E.ext x1).r.l, kt_bind k1 x1 fun vd y F2 H2 S2 _ e2 r2 f2 k2 => ?_⟩
  have x2 := x1.trans e2
  refine ⟨F2, δ, (E.ext x2).r.r.l, kt_bind k2 x2 fun ld z F3 H3 S3 _ e3 r3 f3 k3 => ?_⟩
  have x3 := x2.trans e3
  refine ⟨F3, δ, (E.ext x3).r.r.r, kt_bind k3 x3 fun ud w F4 H4 S4 _ e4 r4 f4 k4 => ?_⟩
  have x4 := x3.trans e4
  have hp4 : H4 p = some (.dK []) := (((e1.trans e2).trans e3).trans e4).h _ _ upd_same
  refine ⟨hp4, ?_⟩
  unfold dis2op at k4
  split at k4
  case isFalse => exact k4.elim
  rename_i hz
  simp only [Bool.and_eq_true] at hz
  obtain ⟨⟨⟨z1, z2⟩, z3⟩, z4⟩ := hz
  obtain ⟨i, rfl⟩ := keyOk_int z1
  obtain ⟨j, rfl⟩ := keyOk_int z3
  obtain ⟨rfl, _⟩ := rep_int r1
  obtain ⟨rfl, _⟩ := rep_int r3
  obtain ⟨rfl, _⟩ := rep_flat (F' := F2) vd z2 r2
  obtain ⟨rfl, _⟩ := rep_flat (F' := F4) ud z4 r4
  refine ⟨[(.inl i, y), (.inl j, w)], rfl, Nat.le_of_ble_eq_true rfl, ?_⟩
  have fp : F4 p = none := (((e1.trans e2).trans e3).trans e4).new p (by rw [upd_same]; exact fun z => nomatch z) (free_in E.inn hp)
  have of : Off H4 (upd H4 p (.dK (mergeK [] [(Sum.inl i, y), (Sum.inl j, w)]))) p := ⟨fun b o hb e => by rw [upd_ne hb]; exact e, fun ys e => (by rw [hp4] at e; cases e), fun o u e => (by rw [hp4] at e; cases e), fun cls e => (by rw [hp4] at e; unfold ExV at e; cases e)⟩
  have exu : Ext F H F4 (upd H4 p (.dK (mergeK [] [(Sum.inl i, y), (Sum.inl j, w)]))) := ⟨x4.f, fun b u z => by
    have hb : b ≠ p := fun e => by rw [e, hp] at z; cases z
    rw [upd_ne hb]; exact x4.h _ _ z, fun b u z => by
    have hb : b ≠ p := fun e => by rw [e, fp] at z; cases z
    rw [upd_ne hb]; exact x4.in' _ _ z, x4.new⟩
  have q2 := rep_off of vd (rep_ext (e3.trans e4) r2) (fun z => (List.not_mem_nil z).elim)
  have q4 := rep_off of ud r4 (fun z => (List.not_mem_nil z).elim)
  have ek : ((D.int i).key = (D.int j).key) ↔ i = j := by simp [D.key]
  refine k4 _ F4 _ [p] exu ?_ fun b hb => ?_
  · have nl : ∀ {Hx : Hp} (n : Int), Rep X.K F4 Hx (.int n) (.int n) [] := fun {Hx} n => by simp [Rep]
    have go : Reps X.K F4 (upd H4 p (.dK (mergeK [] [(Sum.inl i, y), (Sum.inl j, w)]))) (dput [D.int i] [vd] (.int j) ud).1 (if i = j then [.int i] else [.int i, .int j]) [] ∧ Reps X.K F4 (upd H4 p (.dK (mergeK [] [(Sum.inl i, y), (Sum.inl j, w)]))) (dput [D.int i] [vd] (.int j) ud).2 (if i = j then [w] else [y, w]) [] ∧
        dwf true (dput [D.int i] [vd] (.int j) ud).1 (dput [D.int i] [vd] (.int j) ud).2 = true := by
      unfold dput dfind dfind drepl drepl
      simp only [ek]
      by_cases e : i = j
      · subst e
        simp only [if_true, Option.isSome_some]
        exact ⟨by simpa using reps_one (nl i), by simpa using reps_one q4, dwf_mk (by simp [keyOk]) (by simp [D.flats, z4]) rfl⟩
      · simp only [if_neg e, Option.isSome_none, Bool.false_eq_true, if_false]
        exact ⟨by simpa using reps_cons (nl i) (reps_one (nl j)) (fun a ha => (List.not_mem_nil ha).elim), by simpa using reps_cons q2 (reps_one q4) (fun a ha => (List.not_mem_nil ha).elim), dwf_mk (by simp [keyOk]) (by simp [D.flats, z2, z4]) rfl⟩
    obtain ⟨g1, g2, g3⟩ := go
    refine rep_own_dct ?_ fp g1 g2 g3
    rw [upd_same]
    show some (HO.dK _) = some (HO.dK (kvI _ _))
    rw [dis2_kv (v := vd) (u := ud)]
  · simp only [List.mem_singleton] at hb
    subst hb
    exact hp

/-! ### methods -/
theorem trees_cons {e : Expr} {es : List Expr} {env : Env} {pos : Pos} (h : notStar e = true) : backTo pos (starEach (e :: es) env) = (false, eval e env) :: backTo pos (starEach es env) := by
  rw [star_cons h]
  rfl
theorem pp_get {a b c : M} (ia : PP T Φ γ a) (ib : PP T Φ γ b) (ic : PP T Φ γ c) : PP T Φ γ (.get a b c) := by
  refine .plain (fun {XW sc X e} C h => ?_) (fun _ _ => by simp [mt]) (fun _ _ _ => by simp [mt])
  cases e <;> first | (simp [mt] at h; done) | skip
  rename_i fn l kw cp
  cases fn <;> first | (simp [mt] at h; done) | skip
  rename_i o nm ap
  rcases l with _ | ⟨x, _ | ⟨y, _ | ⟨y2, l⟩⟩⟩ <;> first | (simp [mt] at h; done) | skip
  cases kw <;> first | (simp [mt] at h; done) | skip
  simp only [mt, Bool.and_eq_true, decide_eq_true_eq] at h
  obtain ⟨⟨⟨⟨⟨⟨⟨rfl, h1⟩, h2⟩, h3⟩, h4⟩, h5⟩, h6⟩, h7⟩ := h
  have m2 : M2 X o "get" ap x y cp := ⟨base_of h2 _ _, by rw [trees_cons h3, trees_cons h4]; rfl, h1, by rw [trees_cons h3, trees_cons h4]; rfl⟩
  refine ⟨(pe_dget2 (by have := C.units; omega) (ia.pe C h5) (ib.pe C h6) (ic.pe C h7) m2).of fun σ H Q ⟨F, δ, E, k⟩ => ?_, rfl⟩
  simp only [ev] at k
  have E1 := E.l
  have E2 := E.r.l
  have E3 := E.r.r
  refine ⟨F, δ, E1, kt_bind k (Ext.refl E.inn) fun od x F1 H1 S1 h1 e1 r1 f1 k1 => ?_⟩
  split at k1
  case isFalse => exact k1.elim
  rename_i hd
  cases od <;> first | (simp [D.isDI] at hd; done) | skip
  rename_i kk cc ks vs
  simp only [D.isDI] at hd
  subst hd
  obtain ⟨p, rfl, dc⟩ := rep_dct e1.in' r1
  obtain ⟨ps0, us0, g0, _⟩ := id dc
  refine ⟨p, rfl, .inl ⟨_, .of (show H1 p = some (.dK (kvI ks us0)) from g0)⟩, ?_⟩
  refine ⟨F1, δ, E2.ext e1, kt_bind (show Kx _ H (ev Φ γ b δ >>= _) _ from k1) e1 fun kd y F2 H2 S2 h2 e2 r2 f2 k2 => ?_⟩
  have x2 := e1.trans e2
  refine ⟨F2, δ, E3.ext x2, kt_bind k2 x2 fun xd z F3 H3 S3 h3 e3 r3 f3 k3 => ?_⟩
  have x3 := x2.trans e3
  have r1' := rep_ext (e2.trans e3) r1
  obtain ⟨p', e', ps, us, g1, g2, g3, g4⟩ := rep_dct x3.in' r1'
  cases e'
  obtain ⟨w1, w2, w3⟩ := dwf_of g4
  simp only [getop] at k3
  split at k3
  case isFalse => exact k3.elim
  rename_i hk
  simp only [Bool.and_eq_true] at hk
  obtain ⟨i, rfl⟩ := keyOk_int hk.1
  obtain ⟨rfl, _⟩ := rep_int r2
  obtain ⟨rfl, r3'⟩ := rep_flat (F' := F3) xd hk.2 r3
  have ei : (D.int i).key = some (NestedKey.num i) := by simp [D.key]
  rw [ei] at k3
  refine ⟨_, DGet.k (k := Sum.inl i) (show H3 p = some (.dK (kvI ks us)) from g1), ?_⟩
  obtain ⟨q1, q2⟩ := kvI_find (i := i) w1 g3 w3
  cases e : dfind (some (NestedKey.num i)) ks vs with
  | none =>
    rw [e] at k3
    rw [q2 e]
    exact k3 z F3 H3 [] x3 r3 .nil
  | some d =>
    obtain ⟨u, hu, rd⟩ := q1 d e
    rw [e] at k3
    rw [hu]
    exact k3 u F3 H3 [] x3 rd .nil

theorem idxL_of {x : PyData} : ∀ {ys : List PyData} {j : Nat}, idxL x ys = some j → ∃ z, ys[j]? = some z ∧ PyData.eqv z x = true ∧ ∀ (m : Nat) (z' : PyData), m < j → ys[m]? = some z' → PyData.eqv z' x = false
  | [], j, h => by simp [idxL] at h
  | y :: ys, j, h => by
    simp only [idxL] at h
    split at h
    · rename_i e
      cases h
      exact ⟨y, rfl, e, fun m z hm => by omega⟩
    · rename_i e
      simp only [Option.map_eq_some_iff] at h
      obtain ⟨k, hk, rfl⟩ := h
      obtain ⟨z, h1, h2, h3⟩ := idxL_of hk
      refine ⟨z, h1, h2, fun m z' hm hz => ?_⟩
      cases m with
      | zero => cases hz; simpa using e
      | succ m => exact h3 m z' (by omega) hz
/-- l.count(x) of data -/
def rCntD (K : PySem.W.Frag) : V → List V → Hp → VK → Prop := fun x xs H Q => ∃ (a : Addr) (y : V) (d : PyData) (ds : List PyData), x = V.ref a ∧ xs = [y] ∧ Dp K H (V.ref a) (.list ds) ∧ Dp K H y d ∧
  SeqAt.shaped (.list ds) = true ∧ SeqAt.shaped d = true ∧ Q (.int ((ds.countP fun z => PyData.eqv z d : Nat) : Int)) H
theorem mt_cntD {X : Cx} (hu : X.A.units + 65 < cLine) : MtR X "list.count" (rCntD X.K) := by
  intro pins s σ H x xs v us Q I rx rxs h
  obtain ⟨a, y, d, ds, rfl, rfl, hl, hy, sl, sd, q⟩ := h
  cases rx
  cases rxs with
  | cons ry rt =>
    rename_i uy ut
    cases rt
    obtain ⟨bs, r1⟩ := Dp.reads I d y uy hy ry
    have hxs : PyData.canLayAll0 ds = true := SeqAt.canLay_of_shaped sl
    have hroom : X.A.units + 1 + min (PyData.depthAll ds) d.depth < cLine := room_in_shaped sd hu
    cases hl with
    | lst hs ha =>
      obtain ⟨its, rv, ⟨⟨cls, dd, data, sls⟩, n, ho, hc, hdn, hdt⟩, hlen⟩ := I.list hs
      simp only at hc hdt
      subst hc hdt
      obtain ⟨as, h4⟩ := Dp.readsAll I ds _ its ha rv
      have hmap : its.map (SeqAt.readOf s.heap) = ds := SeqAt.readsAll_map ds its as hxs h4
      refine call_meets PySem.F.slot_list_count ⟨_, ho, rfl⟩ PySem.F.entry_list_count (PySem.F.args_list_count_2 _ _)
        (SeqAt.list_countAt a its.toArray n dd sls uy (fun u => PyData.eqv (SeqAt.readOf s.heap u) d)) ⟨ho, SeqAt.items_eqAt (vs := its.toArray) h4 r1 hxs (SeqAt.canLay_of_shaped sd) hroom, ?_⟩
      refine ⟨.int ((ds.countP fun z => PyData.eqv z d : Nat) : Int), H, I.tok _, ⟨s.toks, ?_⟩, q⟩
      show Value.int ((its.toArray.toList.countP (fun u => PyData.eqv (SeqAt.readOf s.heap u) d) : Nat) : Int) s.toks = _
      rw [← hmap, List.countP_map]
      rfl
theorem pp_cnt {a b : M} (ia : PP T Φ γ a) (ib : PP T Φ γ b) : PP T Φ γ (.cnt a b) := by
  refine .plain (fun {XW sc X e} C h => ?_) (fun _ _ => by simp [mt]) (fun _ _ _ => by simp [mt])
  cases e <;> first | (simp [mt] at h; done) | skip
  rename_i fn l kw cp
  cases fn <;> first | (simp [mt] at h; done) | skip
  rename_i o nm ap
  rcases l with _ | ⟨x, _ | ⟨y, l⟩⟩ <;> first | (simp [mt] at h; done) | skip
  cases kw <;> first | (simp [mt] at h; done) | skip
  simp only [mt, Bool.and_eq_true, decide_eq_true_eq] at h
  obtain ⟨⟨⟨⟨⟨rfl, h1⟩, h2⟩, h3⟩, h4⟩, h5⟩ := h
  refine ⟨(pe_bm PySem.F.plainAttrs_list PySem.F.slot_list_count PySem.F.type_list_count (mt_cntD (by have := C.units; omega)) (ia.pe C h4) (pa_cons (ib.pe C h5) pa_nil (star_cons h3)) (base_of h2 _ _) (by rw [trees_cons h3]; rfl) h1 (star_cons h3) rfl).of fun σ H Q ⟨F, δ, E, k⟩ => ?_, rfl⟩
  simp only [ev] at k
  refine ⟨F, δ, E.l, kt_bind k (Ext.refl E.inn) fun od x F1 H1 S1 h1 e1 r1 f1 k1 => ?_⟩
  split at k1
  case isFalse => exact k1.elim
  rename_i hd
  cases od <;> first | (simp [D.isL] at hd; done) | skip
  rename_i kk ds
  obtain ⟨p, us, S', rfl, q1, q2, _⟩ := rep_lst e1.in' r1
  refine ⟨.inl ⟨rfl, us, q1⟩, F1, δ, E.r.ext e1, kt_bind (show Kx _ H (ev Φ γ b δ >>= _) _ from k1) e1 fun xd y F2 H2 S2 h2 e2 r2 f2 k2 => ?_⟩
  have x2 := e1.trans e2
  simp only [cntop] at k2
  split at k2
  · rename_i ys z hy hz
    split at k2
    · rename_i hs
      simp only [Bool.and_eq_true] at hs
      exact ⟨p, y, z, ys, rfl, rfl, rep_dp x2.in' (.lst _ _) (rep_ext e2 r1) (by simp [D.toPy, hy]), rep_dp x2.in' _ r2 hz, hs.1, hs.2, kt_int k2 x2⟩
    · exact k2.elim
  · exact k2.elim
theorem strs_reps {K : PySem.W.Frag} {F H : Hp} : ∀ {ds : List D} {ns : List Str} {vs : List V} {S : List Addr}, strsOf ds = some ns → Reps K F H ds vs S → vs = ns.map V.str
  | [], _, _, _, e, h => by
    simp only [Reps] at h
    simp only [strsOf, Option.some.injEq] at e
    subst e
    exact h.1
  | d :: ds, _, _, _, e, h => by
    cases d <;> first | (simp [strsOf] at e; done) | skip
    obtain ⟨v, vr, S1, S2, rfl, h1, h2, h3, rfl⟩ := reps_uncons h
    simp only [strsOf, Option.map_eq_some_iff] at e
    obtain ⟨ns, e, rfl⟩ := e
    obtain ⟨rfl, _⟩ := rep_str h1
    rw [strs_reps e h2, List.map_cons]
theorem reps_strs {K : PySem.W.Frag} {F H : Hp} : ∀ ns : List Str, Reps K F H (ns.map D.str) (ns.map V.str) []
  | [] => by simp [Reps]
  | n :: ns => by
    have r0 : Rep K F H (.str n) (.str n) [] := by simp [Rep]
    exact reps_cons r0 (reps_strs ns) fun a ha => (List.not_mem_nil ha).elim
theorem pp_split {a b : M} (ia : PP T Φ γ a) (ib : PP T Φ γ b) : PP T Φ γ (.split a b) := by
  refine .plain (fun {XW sc X e} C h => ?_) (fun _ _ => by simp [mt]) (fun _ _ _ => by simp [mt])
  cases e <;> first | (simp [mt] at h; done) | skip
  rename_i fn l kw cp
  cases fn <;> first | (simp [mt] at h; done) | skip
  rename_i o nm ap
  rcases l with _ | ⟨x, _ | ⟨y, l⟩⟩ <;> first | (simp [mt] at h; done) | skip
  cases kw <;> first | (simp [mt] at h; done) | skip
  simp only [mt, Bool.and_eq_true, decide_eq_true_eq] at h
  obtain ⟨⟨⟨⟨⟨rfl, h1⟩, h2⟩, h3⟩, h4⟩, h5⟩ := h
  refine ⟨(pe_split (ia.pe C h4) (ib.pe C h5) (star_cons h3) (base_of h2 _ _) h1).of fun σ H Q ⟨F, δ, E, k⟩ => ?_, rfl⟩
  simp only [ev] at k
  refine ⟨F, δ, E.l, kt_bind k (Ext.refl E.inn) fun od x F1 H1 S1 h1 e1 r1 f1 k1 => ?_⟩
  split at k1
  case isFalse => exact k1.elim
  rename_i hd
  cases od <;> first | (simp [D.isS] at hd; done) | skip
  rename_i s
  obtain ⟨rfl, _⟩ := rep_str r1
  refine ⟨⟨s, rfl⟩, F1, δ, E.r.ext e1, kt_bind (show Kx _ H (ev Φ γ b δ >>= _) _ from k1) e1 fun xd y F2 H2 S2 h2 e2 r2 f2 k2 => ?_⟩
  have x2 := e1.trans e2
  unfold splop at k2
  split at k2
  · rename_i s' t e3
    cases e3
    obtain ⟨rfl, _⟩ := rep_str r2
    split at k2
    · rename_i hz
      refine ⟨s, t, rfl, rfl, by simpa using hz.1, hz.2, fun p hp => ?_⟩
      exact kt_lst k2 x2 (reps_strs _) .nil hp
    · exact k2.elim
  · exact k2.elim
theorem pp_join {a b : M} (ia : PP T Φ γ a) (ib : PP T Φ γ b) : PP T Φ γ (.join a b) := by
  refine .plain (fun {XW sc X e} C h => ?_) (fun _ _ => by simp [mt]) (fun _ _ _ => by simp [mt])
  cases e <;> first | (simp [mt] at h; done) | skip
  rename_i fn l kw cp
  cases fn <;> first | (simp [mt] at h; done) | skip
  rename_i o nm ap
  rcases l with _ | ⟨x, _ | ⟨y, l⟩⟩ <;> first | (simp [mt] at h; done) | skip
  cases kw <;> first | (simp [mt] at h; done) | skip
  simp only [mt, Bool.and_eq_true, decide_eq_true_eq] at h
  obtain ⟨⟨⟨⟨⟨rfl, h1⟩, h2⟩, h3⟩, h4⟩, h5⟩ := h
  refine ⟨(pe_join (ia.pe C h4) (ib.pe C h5) (star_cons h3) (base_of h2 _ _) h1).of fun σ H Q ⟨F, δ, E, k⟩ => ?_, rfl⟩
  simp only [ev] at k
  refine ⟨F, δ, E.l, kt_bind k (Ext.refl E.inn) fun od x F1 H1 S1 h1 e1 r1 f1 k1 => ?_⟩
  split at k1
  case isFalse => exact k1.elim
  rename_i hd
  cases od <;> first | (simp [D.isS] at hd; done) | skip
  rename_i s
  obtain ⟨rfl, _⟩ := rep_str r1
  refine ⟨⟨s, rfl⟩, F1, δ, E.r.ext e1, kt_bind (show Kx _ H (ev Φ γ b δ >>= _) _ from k1) e1 fun xd y F2 H2 S2 h2 e2 r2 f2 k2 => ?_⟩
  have x2 := e1.trans e2
  unfold joop at k2
  split at k2
  · rename_i t kk ds e3
    cases e3
    obtain ⟨p, us, S', rfl, q1, q2, _⟩ := rep_lst x2.in' r2
    unfold joinS at k2
    split at k2
    · rename_i ys hy
      split at k2
      · rename_i hz
        rw [strs_reps hy q2] at q1
        exact ⟨s, p, ys, rfl, rfl, .inl q1, hz, kt_str k2 x2⟩
      · exact k2.elim
    · exact k2.elim
  · rename_i t ds e3
    cases e3
    obtain ⟨p, us, rfl, q1, q2⟩ := rep_tup r2
    unfold joinS at k2
    split at k2
    · rename_i ys hy
      split at k2
      · rename_i hz
        rw [strs_reps hy q2] at q1
        exact ⟨s, p, ys, rfl, rfl, .inr q1, hz, kt_str k2 x2⟩
      · exact k2.elim
    · exact k2.elim
  · exact k2.elim
theorem pp_idx {a b : M} (ia : PP T Φ γ a) (ib : PP T Φ γ b) : PP T Φ γ (.idx a b) := by
  refine .plain (fun {XW sc X e} C h => ?_) (fun _ _ => by simp [mt]) (fun _ _ _ => by simp [mt])
  cases e <;> first | (simp [mt] at h; done) | skip
  rename_i fn l kw cp
  cases fn <;> first | (simp [mt] at h; done) | skip
  rename_i o nm ap
  rcases l with _ | ⟨x, _ | ⟨y, l⟩⟩ <;> first | (simp [mt] at h; done) | skip
  cases kw <;> first | (simp [mt] at h; done) | skip
  simp only [mt, Bool.and_eq_true, decide_eq_true_eq] at h
  obtain ⟨⟨⟨⟨⟨rfl, h1⟩, h2⟩, h3⟩, h4⟩, h5⟩ := h
  refine ⟨(pe_bm PySem.F.plainAttrs_list PySem.F.slot_list_index PySem.F.type_list_index (mt_indexD (by have := C.units; omega)) (ia.pe C h4) (pa_cons (ib.pe C h5) pa_nil (star_cons h3)) (base_of h2 _ _) (by rw [trees_cons h3]; rfl) h1 (star_cons h3) rfl).of fun σ H Q ⟨F, δ, E, k⟩ => ?_, rfl⟩
  simp only [ev] at k
  refine ⟨F, δ, E.l, kt_bind k (Ext.refl E.inn) fun od x F1 H1 S1 h1 e1 r1 f1 k1 => ?_⟩
  split at k1
  case isFalse => exact k1.elim
  rename_i hd
  cases od <;> first | (simp [D.isL] at hd; done) | skip
  rename_i kk ds
  obtain ⟨p, us, S', rfl, q1, q2, _⟩ := rep_lst e1.in' r1
  refine ⟨.inl ⟨rfl, us, q1⟩, F1, δ, E.r.ext e1, kt_bind (show Kx _ H (ev Φ γ b δ >>= _) _ from k1) e1 fun xd y F2 H2 S2 h2 e2 r2 f2 k2 => ?_⟩
  have x2 := e1.trans e2
  simp only [idxop] at k2
  split at k2
  · rename_i ys z hy hz
    split at k2
    · rename_i hs
      simp only [Bool.and_eq_true] at hs
      split at k2
      · rename_i j hj
        obtain ⟨w, g1, g2, g3⟩ := idxL_of hj
        exact ⟨p, y, z, ys, j, w, rfl, rfl, rep_dp x2.in' (.lst _ _) (rep_ext e2 r1) (by simp [D.toPy, hy]), rep_dp x2.in' _ r2 hz, hs.1, hs.2, g1, g2, g3, kt_int k2 x2⟩
      · exact k2.elim
    · exact k2.elim
  · exact k2.elim
/-- list(range(..)) -/
theorem reps_rangeL {K : PySem.W.Frag} {F H : Hp} : ∀ (n : Nat) (lo : Int), Reps K F H (rangeL lo 1 n) ((List.range n).map fun i => V.int (lo + (i : Nat))) []
  | 0, lo => reps_nil'
  | n + 1, lo => by
    rw [List.range_succ_eq_map, List.map_cons, List.map_map]
    have r0 : Rep K F H (.int lo) (V.int (lo + ((0 : Nat) : Int))) [] := by simp [Rep]
    have ih := reps_rangeL (K := K) (F := F) (H := H) n (lo + 1)
    have e : ((List.range n).map fun i => V.int (lo + 1 + (i : Nat))) = (List.range n).map ((fun i : Nat => V.int (lo + (i : Int))) ∘ Nat.succ) := List.map_congr_left fun i _ => by
      simp only [Function.comp]
      congr 1
      omega
    rw [e] at ih
    simpa [rangeL] using reps_cons r0 ih fun a ha => (List.not_mem_nil ha).elim
theorem okR_of2 {j : Int} (h : okR j = true) : -(2 ^ 62) ≤ j ∧ j < 2 ^ 62 := by
  have : j.natAbs < 4611686018427387904 := of_decide_eq_true h
  omega
theorem pp_lrange1 {a : M} (ia : PP T Φ γ a) : PP T Φ γ (.lrange1 a) := by
  refine .plain (fun {XW sc X e} C h => ?_) (fun _ _ => by simp [mt]) (fun _ _ _ => by simp [mt])
  cases e <;> first | (simp [mt] at h; done) | skip
  rename_i fn l kw cp
  cases fn <;> first | (simp [mt] at h; done) | skip
  rename_i x xp
  rcases l with _ | ⟨e, _ | ⟨e2, l⟩⟩ <;> first | (simp [mt] at h; done) | (cases e <;> simp [mt] at h; done) | skip
  cases e <;> first | (simp [mt] at h; done) | skip
  rename_i fn l kw2 cp2
  cases fn <;> first | (simp [mt] at h; done) | skip
  rename_i y yp
  rcases l with _ | ⟨e, _ | ⟨e2, l⟩⟩ <;> first | (simp [mt] at h; done) | skip
  cases kw2 <;> first | (simp [mt] at h; done) | skip
  cases kw <;> first | (simp [mt] at h; done) | skip
  simp only [mt, Bool.and_eq_true, decide_eq_true_eq] at h
  obtain ⟨⟨⟨⟨⟨rfl, h1⟩, rfl⟩, h3⟩, h4⟩, h5⟩ := h
  refine ⟨(pe_listRg C.calm (C.gl h1) (C.bl _ (by simp [bltNames])) (prg_1 (C.gl h3) (C.bl _ (by simp [bltNames])) (ia.pe C h5) (star_cons h4)) (star_cons rfl)).of fun σ H Q ⟨F, δ, E, k⟩ => ?_, rfl⟩
  simp only [ev] at k
  refine ⟨F, δ, E, kt_bind k (Ext.refl E.inn) fun d v F1 H1 S1 hh e1 r1 f1 k1 => ?_⟩
  cases d <;> first | exact k1.elim | skip
  rename_i j
  obtain ⟨rfl, _⟩ := rep_int r1
  unfold lrop at k1
  simp only at k1
  split at k1
  case isFalse => exact k1.elim
  rename_i hz
  simp only [Bool.and_eq_true, decide_eq_true_eq] at hz
  have z := okR_of2 hz.1
  refine ⟨j, rfl, ⟨by omega, by omega, z.1, z.2, by have := hz.2; omega⟩, fun q hq => ?_⟩
  have e0 : (j - 0).toNat = j.toNat := by rw [Int.sub_zero]
  unfold rgV
  rw [e0]
  exact kt_lst k1 e1 (reps_rangeL _ 0) .nil hq
theorem pp_lrange2 {a b : M} (ia : PP T Φ γ a) (ib : PP T Φ γ b) : PP T Φ γ (.lrange2 a b) := by
  refine .plain (fun {XW sc X e} C h => ?_) (fun _ _ => by simp [mt]) (fun _ _ _ => by simp [mt])
  cases e <;> first | (simp [mt] at h; done) | skip
  rename_i fn l kw cp
  cases fn <;> first | (simp [mt] at h; done) | skip
  rename_i x xp
  rcases l with _ | ⟨e, _ | ⟨e2, l⟩⟩ <;> first | (simp [mt] at h; done) | (cases e <;> simp [mt] at h; done) | skip
  cases e <;> first | (simp [mt] at h; done) | skip
  rename_i fn l kw2 cp2
  cases fn <;> first | (simp [mt] at h; done) | skip
  rename_i y yp
  rcases l with _ | ⟨e, _ | ⟨e2, _ | ⟨e3, l⟩⟩⟩ <;> first | (simp [mt] at h; done) | skip
  cases kw2 <;> first | (simp [mt] at h; done) | skip
  cases kw <;> first | (simp [mt] at h; done) | skip
  simp only [mt, Bool.and_eq_true, decide_eq_true_eq] at h
  obtain ⟨⟨⟨⟨⟨⟨⟨rfl, h1⟩, rfl⟩, h3⟩, h4⟩, h4'⟩, h5⟩, h6⟩ := h
  refine ⟨(pe_listRg C.calm (C.gl h1) (C.bl _ (by simp [bltNames])) (prg_2 (C.gl h3) (C.bl _ (by simp [bltNames])) (ia.pe C h5) (ib.pe C h6) (star_cons h4) (star_cons h4') (by rw [trees_cons h4']; rfl)) (star_cons rfl)).of fun σ H Q ⟨F, δ, E, k⟩ => ?_, rfl⟩
  simp only [ev] at k
  refine two_step E k fun d d2 F2 H2 v w _ t q => ?_
  obtain ⟨S, U, e, r1, r2, f1, f2, ap⟩ := id t.ex
  cases d <;> first | exact q.elim | skip
  rename_i i
  cases d2 <;> first | exact q.elim | skip
  rename_i j
  obtain ⟨rfl, _⟩ := rep_int r1
  obtain ⟨rfl, _⟩ := rep_int r2
  unfold lrop at q
  simp only at q
  split at q
  case isFalse => exact q.elim
  rename_i hz
  simp only [Bool.and_eq_true, decide_eq_true_eq] at hz
  have z := okR_of2 hz.1.1
  have z2 := okR_of2 hz.1.2
  refine ⟨i, j, rfl, rfl, ⟨z.1, z.2, z2.1, z2.2, by have := hz.2; omega⟩, fun p hp => ?_⟩
  unfold rgV
  exact kt_lst q e (reps_rangeL _ i) .nil hp
end
end Mn

/-! MnF: comprehensions; all expressions. -/
namespace Mn
open PySem PySem.Spec L2
open PyProof.Rows hiding St

section
variable {K : PySem.W.Frag} {F H F' H' : Hp}
theorem frzs_get {ds : List D} {i : Nat} {d : D} (h : ds[i]? = some d) : (D.frzs ds)[i]? = some d.frz := by rw [D.frzs_eq, List.getElem?_map, h]; rfl
theorem frzs_len (ds : List D) : (D.frzs ds).length = ds.length := by rw [D.frzs_eq, List.length_map]
theorem rangeL_get {c : Int} : ∀ {n i : Nat} {lo : Int} {d : D}, (rangeL lo c n)[i]? = some d → i < n ∧ d = .int (lo + (i : Nat) * c)
  | 0, i, lo, d, h => by simp [rangeL] at h
  | n + 1, 0, lo, d, h => by
    simp [rangeL] at h
    subst h
    exact ⟨Nat.succ_pos _, by simp⟩
  | n + 1, i + 1, lo, d, h => by
    have h' : (rangeL (lo + c) c n)[i]? = some d := by simpa [rangeL] using h
    obtain ⟨h1, h2⟩ := rangeL_get h'
    refine ⟨Nat.succ_lt_succ h1, ?_⟩
    rw [h2]
    congr 1
    rw [Int.add_assoc]
    congr 1
    rw [Int.natCast_succ, Int.add_mul, Int.one_mul, Int.add_comm]
theorem rangeL_len {c : Int} : ∀ {n : Nat} {lo : Int}, (rangeL lo c n).length = n
  | 0, _ => rfl
  | n + 1, lo => by simp [rangeL, rangeL_len]
theorem enumL_get : ∀ {ds : List D} {k i : Nat} {d : D}, (enumL k ds)[i]? = some d → ∃ x, ds[i]? = some x ∧ d = .tup [.int ((k + i : Nat) : Int), x]
  | [], k, i, d, h => by simp [enumL] at h
  | x :: ds, k, 0, d, h => by
    simp [enumL] at h
    subst h
    exact ⟨x, rfl, by simp⟩
  | x :: ds, k, i + 1, d, h => by
    have h' : (enumL (k + 1) ds)[i]? = some d := by simpa [enumL] using h
    obtain ⟨y, h1, h2⟩ := enumL_get h'
    refine ⟨y, by simpa using h1, ?_⟩
    rw [h2]
    have : ((k + 1 + i : Nat) : Int) = ((k + (i + 1) : Nat) : Int) := by congr 1; omega
    rw [this]
theorem enumL_len : ∀ {ds : List D} {k : Nat}, (enumL k ds).length = ds.length
  | [], _ => rfl
  | x :: ds, k => by simp [enumL, enumL_len]
theorem zipL_get : ∀ {ds es : List D} {i : Nat} {d : D}, (zipL ds es)[i]? = some d → ∃ x y, ds[i]? = some x ∧ es[i]? = some y ∧ d = .tup [x, y]
  | [], es, i, d, h => by simp [zipL] at h
  | x :: ds, [], i, d, h => by simp [zipL] at h
  | x :: ds, y :: es, 0, d, h => by
    simp [zipL] at h
    exact ⟨x, y, rfl, rfl, h.symm⟩
  | x :: ds, y :: es, i + 1, d, h => by
    have h' : (zipL ds es)[i]? = some d := by simpa [zipL] using h
    obtain ⟨a, b, h1, h2, h3⟩ := zipL_get h'
    exact ⟨a, b, by simpa using h1, by simpa using h2, h3⟩
theorem zipL_len : ∀ {ds es : List D}, (zipL ds es).length = min ds.length es.length
  | [], es => by simp [zipL]
  | x :: ds, [] => by simp [zipL]
  | x :: ds, y :: es => by simp [zipL, zipL_len]

/-- what an iterator yields, while the heap but grows -/
def Itm (K : PySem.W.Frag) (J : It) (F H : Hp) (ds : List D) : Prop := ∀ (i : Nat) F' H', Ext F H F' H' →
  (∀ d, ds[i]? = some d → J.go i H' ∧ ∀ x H'', J.yld i H' x H'' → ∃ F'', Ext F' H' F'' H'' ∧ Rep K F'' H'' d.frz x []) ∧ (ds.length ≤ i → J.stop i H')
theorem frz_lst {k : LK} {ds : List D} {v : V} {S : List Addr} (i : Same F H) (h : Rep K F H (D.frz (.lst k ds)) v S) : ∃ a vs, v = .ref a ∧ SqL K F a vs ∧ Reps K F H (D.frzs ds) vs [] := by
  cases k with
  | own =>
    simp only [D.frz, Rep] at h
    obtain ⟨a, vs, rfl, h1, h3, _⟩ := h
    exact ⟨a, vs, rfl, .of h1, h3⟩
  | frz =>
    simp only [D.frz, Rep] at h
    obtain ⟨a, vs, rfl, h1, h3, _⟩ := h
    exact ⟨a, vs, rfl, .of h1, h3⟩
  | ro =>
    simp only [D.frz, Rep] at h
    obtain ⟨a, vs, rfl, h1, h3, _⟩ := h
    exact ⟨a, vs, rfl, h1, h3⟩
theorem reps_at {ds : List D} {vs : List V} {i : Nat} {d : D} (r : Reps K F H (D.frzs ds) vs []) (hd : ds[i]? = some d) : ∃ v, vs[i]? = some v ∧ Rep K F H d.frz v [] := by
  obtain ⟨v, S', h1, h2, h3⟩ := reps_get r (frzs_get hd)
  cases S' with
  | nil => exact ⟨v, h1, h2⟩
  | cons a S => exact absurd (h3 a List.mem_cons_self) (by simp)
theorem itm_of {m : M} {ds items : List D} {vs : List V} {J : It} (j : Jt K m ds vs J) (h : itJ m ds = .ok items) (i : Same F H) (r : Reps K F H (D.frzs ds) vs []) : Itm K J F H items := by
  cases j with
  | @lst a k ds p =>
    simp only [itJ, itemsOf] at h
    cases h
    simp only [D.frzs] at r
    obtain ⟨v, e, r⟩ := reps_1 r
    cases e
    obtain ⟨q, vs, e, h1, h2⟩ := frz_lst i r
    cases e
    intro n F1 H1 e1
    have s1 : SqL K H1 p vs := e1.in'.seq (e1.f.seq h1)
    refine ⟨fun d hd => ?_, fun hn => ⟨vs, s1, by rw [reps_len h2, frzs_len]; exact hn⟩⟩
    obtain ⟨v, k1, k2⟩ := reps_at h2 hd
    refine ⟨⟨vs, v, s1, k1⟩, fun x H2 ⟨e2, y⟩ => ⟨F1, ?_⟩⟩
    subst e2
    have := y vs s1
    rw [k1] at this
    cases this
    exact ⟨Ext.refl e1.in', rep_ext e1 k2⟩
  | @tup a ds p =>
    simp only [itJ, itemsOf] at h
    cases h
    simp only [D.frzs, D.frz] at r
    obtain ⟨v, e, r⟩ := reps_1 r
    cases e
    obtain ⟨q, vs, e, h1, h2⟩ := rep_tup r
    cases e
    intro n F1 H1 e1
    have s1 : SqT K H1 p vs := same_seqT e1.h h1
    refine ⟨fun d hd => ?_, fun hn => ⟨vs, s1, by rw [reps_len h2, frzs_len]; exact hn⟩⟩
    obtain ⟨v, k1, k2⟩ := reps_at h2 hd
    refine ⟨⟨vs, v, s1, k1⟩, fun x H2 ⟨e2, y⟩ => ⟨F1, ?_⟩⟩
    subst e2
    have := y vs s1
    rw [k1] at this
    cases this
    exact ⟨Ext.refl e1.in', rep_ext e1 k2⟩
  | @str a s =>
    simp only [itJ, itemsOf] at h
    cases h
    intro n F1 H1 e1
    refine ⟨fun d hd => ?_, fun hn => ?_⟩
    · unfold signs at hd
      rw [List.getElem?_map, Option.map_eq_some_iff] at hd
      obtain ⟨c, hc, rfl⟩ := hd
      rw [Array.getElem?_toList] at hc
      refine ⟨(Array.getElem?_eq_some_iff.mp hc).1, fun x H2 ⟨e2, c', hc', ex⟩ => ⟨F1, ?_⟩⟩
      subst e2 ex
      rw [hc] at hc'
      cases hc'
      exact ⟨Ext.refl e1.in', by simp [D.frz, Rep]⟩
    · have : s.cps.size ≤ n := by simpa [signs] using hn
      exact this
  | @r1 es jj =>
    simp only [itJ, itop] at h
    split at h <;> first | (cases h; done) | skip
    cases h
    intro n F1 H1 e1
    refine ⟨fun d hd => ?_, fun hn => by rw [rangeL_len] at hn; exact hn⟩
    obtain ⟨h1, rfl⟩ := rangeL_get hd
    refine ⟨h1, fun x H2 ⟨e2, y⟩ => ⟨F1, ?_⟩⟩
    subst e2 y
    refine ⟨Ext.refl e1.in', ?_⟩
    simp [D.frz, Rep]
  | @r2 es ii jj =>
    simp only [itJ, itop] at h
    split at h <;> first | (cases h; done) | skip
    cases h
    intro n F1 H1 e1
    refine ⟨fun d hd => ?_, fun hn => by rw [rangeL_len] at hn; exact hn⟩
    obtain ⟨h1, rfl⟩ := rangeL_get hd
    refine ⟨h1, fun x H2 ⟨e2, y⟩ => ⟨F1, ?_⟩⟩
    subst e2 y
    refine ⟨Ext.refl e1.in', ?_⟩
    simp [D.frz, Rep]
  | @r3 es ii jj c =>
    simp only [itJ, itop] at h
    split at h <;> first | (cases h; done) | skip
    cases h
    intro n F1 H1 e1
    refine ⟨fun d hd => ?_, fun hn => by rw [rangeL_len] at hn; exact hn⟩
    obtain ⟨h1, rfl⟩ := rangeL_get hd
    refine ⟨h1, fun x H2 ⟨e2, y⟩ => ⟨F1, ?_⟩⟩
    subst e2 y
    refine ⟨Ext.refl e1.in', ?_⟩
    simp [D.frz, Rep]
  | @en es k ds p =>
    simp only [itJ, itop] at h
    cases h
    simp only [D.frzs] at r
    obtain ⟨v, e, r⟩ := reps_1 r
    cases e
    obtain ⟨q, vs, e, h1, h2⟩ := frz_lst i r
    cases e
    intro n F1 H1 e1
    have s1 : SqL K H1 p vs := e1.in'.seq (e1.f.seq h1)
    refine ⟨fun d hd => ?_, fun hn => ⟨vs, s1, by rw [reps_len h2, frzs_len]; rw [enumL_len] at hn; exact hn⟩⟩
    obtain ⟨x, hx, rfl⟩ := enumL_get hd
    obtain ⟨v, k1, k2⟩ := reps_at h2 hx
    refine ⟨⟨vs, v, s1, k1⟩, fun x H2 ⟨Ta, w, e2, nT, e3, y⟩ => ⟨F1, ?_⟩⟩
    subst e2 e3
    have := y vs s1
    rw [k1] at this
    cases this
    have x2 := ext_step (o := .tup [.int (n : Nat), v]) e1.in' nT
    refine ⟨x2, ?_⟩
    simp only [D.frz, D.frzs]
    have := reps_cons (K := K) (F := F1) (H := upd H1 Ta (.tup [.int (n : Nat), v])) (d := .int ((0 + n : Nat) : Int)) (v := .int (n : Nat)) (S := []) ⟨by simp, rfl⟩ (reps_one (rep_ext (e1.trans x2) k2)) (fun a ha => nomatch ha)
    simp only [Rep]
    exact ⟨Ta, _, rfl, upd_same, this⟩
  | @zp es k l ds es' p q =>
    simp only [itJ, itop] at h
    cases h
    simp only [D.frzs] at r
    obtain ⟨v, w, S1, S2, e, ra, rb⟩ := reps_2 r
    cases e
    obtain ⟨_, vs, e, h1, h2⟩ := frz_lst i ra
    cases e
    obtain ⟨_, ws, e, h3, h4⟩ := frz_lst i rb
    cases e
    intro n F1 H1 e1
    have s1 : SqL K H1 p vs := e1.in'.seq (e1.f.seq h1)
    have s2 : SqL K H1 q ws := e1.in'.seq (e1.f.seq h3)
    refine ⟨fun d hd => ?_, fun hn => ⟨vs, ws, s1, s2, by rw [reps_len h2, frzs_len, reps_len h4, frzs_len]; rw [zipL_len] at hn; omega⟩⟩
    obtain ⟨x, y, hx, hy, rfl⟩ := zipL_get hd
    obtain ⟨v, k1, k2⟩ := reps_at h2 hx
    obtain ⟨w, k3, k4⟩ := reps_at h4 hy
    refine ⟨⟨vs, ws, v, w, s1, s2, k1, k3⟩, fun x H2 ⟨Ta, a, b, e2, nT, e3, y, z⟩ => ⟨F1, ?_⟩⟩
    subst e2 e3
    have := y vs s1
    rw [k1] at this
    cases this
    have := z ws s2
    rw [k3] at this
    cases this
    have x2 := ext_step (o := .tup [v, w]) e1.in' nT
    refine ⟨x2, ?_⟩
    simp only [D.frz, D.frzs]
    have := reps_cons (K := K) (F := F1) (H := upd H1 Ta (.tup [v, w])) (rep_ext (e1.trans x2) k2) (reps_one (rep_ext (e1.trans x2) k4)) (fun a ha => nomatch ha)
    simp only [Rep]
    exact ⟨Ta, _, rfl, upd_same, this⟩
end

/-! ### the block of a comprehension -/
theorem lookup_relS_free {sc : Scope} : ∀ {names : List (Str × NameKind)} {x : Str}, names.lookup x = some .free →
    (names.map fun (n, k) => if (k == NameKind.free && sc.kind == .function && sc.names.lookup n == some .cell) then (n, NameKind.cell) else (n, k)).lookup x = some .free ∨
    (names.map fun (n, k) => if (k == NameKind.free && sc.kind == .function && sc.names.lookup n == some .cell) then (n, NameKind.cell) else (n, k)).lookup x = some .cell
  | [], _, h => by simp at h
  | (n, k₀) :: r, x, h => by
    have ih := @lookup_relS_free sc r x
    simp only [List.map_cons]
    cases hx : x == n with
    | true =>
      simp only [List.lookup_cons, hx] at h
      cases h
      split
      · simp only [List.lookup_cons, hx]; exact .inr trivial
      · simp only [List.lookup_cons, hx]; exact .inl trivial
    | false =>
      simp only [List.lookup_cons, hx] at h
      split
      · simp only [List.lookup_cons, hx]; exact ih h
      · simp only [List.lookup_cons, hx]; exact ih h
section
variable {T : Tab} {Φ : Fn} {γ : Gn} {XW : XWs} {sc : Scope} {X : Cx}
theorem blk_ok (C : Cok T Φ γ XW sc X) {scope : Scope} {own : List (Str × Nat)} (h : blkC T.N sc scope own = true) : BlkOk X.N X.env.scope scope own := by
  have b := blkOk_by h
  refine ⟨b.kind, b.uniq, by rw [C.nN]; exact b.ix, fun y hy e => ?_, by rw [C.nN]; exact b.own⟩
  rcases b.free y hy e with z | z
  · exact .inl (C.keep _ _ z (by decide))
  · rcases C.free _ z with q | q
    · exact .inr q
    · exact .inl q
theorem Cok.blk (C : Cok T Φ γ XW sc X) (scope : Scope) (s : Shared) (H : Hp) (Ca : Addr) (cl : List (Str × Addr)) (fp : List Addr) : Cok T Φ γ (fun _ _ _ => False) scope (X.blk s H scope (compEnvC scope cl Ca X.env) fp) where
  calm := C.calm
  nN := C.nN
  nd := C.nd
  keep := fun x k h hk => lookup_relS_keep (sc := X.env.scope) hk h
  free := fun x h => lookup_relS_free (sc := X.env.scope) h
  cell := fun x h => by
    show (scope.names.lookup x == some .cell) = true
    rw [h]
    rfl
  units := C.units
  bl := C.bl
  call := C.call
  pass := fun pins σ H s e s' I h => by
    obtain ⟨_, _, _, _, _, _, _, _, _, _, _, _, _, c, Cc, _, _, z⟩ := h
    exact z.elim
  cls := fun c σ H' z => z.elim
  exk := C.exk
  glob := C.glob
theorem noX_nx {α : Type} (r : R α) (c : Str) : noX r ≠ .exc c := by cases r <;> simp [noX]
theorem compL_nx {f : D → R (Option D)} (hf : ∀ d c, f d ≠ .exc c) : ∀ (ds : List D) (c : Str), compL f ds ≠ .exc c
  | [], c => by simp [compL]
  | d :: ds, c => by
    simp only [compL]
    cases e : f d with
    | ok r =>
      have ih := compL_nx hf ds c
      cases e2 : compL f ds with
      | ok rs => cases r <;> simp
      | exc c' =>
        rw [e2] at ih
        simpa using ih
      | bad => simp
    | exc c' => exact absurd e (hf d c')
    | bad => simp
theorem compL_at {f : D → R (Option D)} {d : D} {ds rs : List D} (h : compL f (d :: ds) = .ok rs) : ∃ r rs', f d = .ok r ∧ compL f ds = .ok rs' ∧ rs = (match r with | some e => e :: rs' | none => rs') := by
  simp only [compL] at h
  cases e : f d with
  | ok r =>
    rw [e] at h
    cases e2 : compL f ds with
    | ok rs' =>
      rw [e2] at h
      refine ⟨r, rs', rfl, rfl, ?_⟩
      cases r <;> (cases h; rfl)
    | exc c => rw [e2] at h; cases h
    | bad => rw [e2] at h; cases h
  | exc c => rw [e] at h; cases h
  | bad => rw [e] at h; cases h

theorem itop_tup {k : Ik} {l : List D} {d : D} (h : itop k l = .ok d) : ∃ ds, d = .tup ds := by
  unfold itop at h
  split at h <;> first | (cases h; done) | skip
  all_goals first
    | (cases h; exact ⟨_, rfl⟩)
    | (split at h <;> first | (cases h; done) | (cases h; exact ⟨_, rfl⟩))
theorem evJ_bind {XW : XWt} {HB : Hp} {m : M} {δ : List D} {g : D → R D} {P : D → Prop} (hm : (∃ a, m = .its a) ∨ ∃ k es, m = .it k es) (h : Kx XW HB (ev Φ γ m δ >>= g) P) :
    Kx XW HB (evJ Φ γ m δ) fun y => ∃ ds items, y = .tup ds ∧ itJ m ds = .ok items ∧ Kx XW HB (g (.tup items)) P := by
  rcases hm with ⟨a, rfl⟩ | ⟨k, es, rfl⟩
  · simp only [ev, evJ] at h ⊢
    cases e : ev Φ γ a δ with
    | ok d =>
      rw [e] at h
      have h' : Kx XW HB ((itemsOf d >>= fun ds => R.ok (.tup ds)) >>= g) P := h
      cases e2 : itemsOf d with
      | ok ds =>
        rw [e2] at h'
        refine ⟨[d], ds, rfl, ?_, h'⟩
        simp only [itJ]
        exact e2
      | exc c => cases d <;> simp [itemsOf] at e2
      | bad =>
        rw [e2] at h'
        exact h'.elim
    | exc c => rw [e] at h; exact h
    | bad => rw [e] at h; exact h
  · simp only [ev, evJ] at h ⊢
    cases e : ev Φ γ es δ with
    | ok d =>
      rw [e] at h
      have h' : Kx XW HB ((tupOf d >>= fun l => itop k l) >>= g) P := h
      cases d <;> first | exact h'.elim | skip
      rename_i l
      have h' : Kx XW HB (itop k l >>= g) P := h'
      cases e2 : itop k l with
      | ok d =>
        obtain ⟨ds, rfl⟩ := itop_tup e2
        rw [e2] at h'
        refine ⟨l, ds, rfl, ?_, h'⟩
        simp only [itJ, e2]
        rfl
      | exc c =>
        exfalso
        unfold itop at e2
        split at e2 <;> first | (cases e2; done) | skip
        all_goals (split at e2 <;> cases e2)
      | bad => rw [e2] at h'; exact h'.elim
    | exc c => rw [e] at h; exact h
    | bad => rw [e] at h; exact h
theorem ext_mod {F H F' H' : Hp} (e : Ext F H F' H') {p : Addr} {o : HO} (h : H p = none) (f : F' p = none) : Ext F H F' (upd H' p o) :=
  ⟨e.f, fun b u z => by rw [upd_ne (ne_of_none z h)]; exact e.h _ _ z, fun b u z => by rw [upd_ne (ne_of_none z f)]; exact e.in' _ _ z, e.new⟩

/-- one turn of a comprehension, by the evaluator -/
def turnR (Φ : Fn) (γ : Gn) (elt cond : M) (tg : Tg) (own : List (Str × Nat)) (δ : List D) (d : D) : R (Option D) := noX (do
  let δ' ← asg true tg [d] (wipeD δ (own.map (·.2)))
  let c ← ev Φ γ cond δ'
  let q ← blOf c
  if q then do
    let e ← ev Φ γ elt δ'
    .ok (some e)
  else .ok none)
theorem turnR_of {elt cond : M} {tg : Tg} {own : List (Str × Nat)} {δ : List D} {d : D} {r : Option D} (h : turnR Φ γ elt cond tg own δ d = .ok r) :
    ∃ δ' q, asg true tg [d] (wipeD δ (own.map (·.2))) = .ok δ' ∧ ev Φ γ cond δ' = .ok (.bl q) ∧ ((q = true ∧ ∃ e, ev Φ γ elt δ' = .ok e ∧ r = some e) ∨ (q = false ∧ r = none)) := by
  unfold turnR at h
  cases e1 : asg true tg [d] (wipeD δ (own.map (·.2))) with
  | ok δ' =>
    rw [e1] at h
    cases e2 : ev Φ γ cond δ' with
    | ok c =>
      simp only [R.bind_ok, e2] at h
      cases c <;> first | (cases h; done) | skip
      rename_i q
      refine ⟨δ', q, rfl, e2, ?_⟩
      cases q with
      | true =>
        have h' : noX (ev Φ γ elt δ' >>= fun e => R.ok (some e)) = .ok r := h
        cases e3 : ev Φ γ elt δ' with
        | ok e =>
          rw [e3] at h'
          cases h'
          exact .inl ⟨rfl, e, rfl, rfl⟩
        | exc c => rw [e3] at h'; cases h'
        | bad => rw [e3] at h'; cases h'
      | false =>
        have h' : noX (R.ok (none : Option D)) = .ok r := h
        cases h'
        exact .inr ⟨rfl, rfl⟩
    | exc c => simp only [R.bind_ok, e2] at h; cases h
    | bad => simp only [R.bind_ok, e2] at h; cases h
  | exc c => rw [e1] at h; cases h
  | bad => rw [e1] at h; cases h

theorem comp_read {K : PySem.W.Frag} {elt iter cond : M} {tg : Tg} {own : List (Str × Nat)} {σ : St} {H : Hp} {Q : VK} {tt : TT} (hi : (∃ a, iter = .its a) ∨ ∃ k es, iter = .it k es) (hs : ∀ j, j ∈ tg.slots → j ∈ own.map (·.2))
    (ht : (cond = .yes ∧ tt = tYes) ∨ tt = tT K T.N.length Φ γ (fun _ _ _ => False) cond) (h : tE K T.N.length Φ γ XW (.comp elt tg iter cond own) σ H Q) :
    tLc (tJ K T.N.length Φ γ XW iter) (fun v => gA K tg [v]) tt (tE K T.N.length Φ γ (fun _ _ _ => False) elt) (own.map (·.2)) σ H Q := by
  obtain ⟨F, δ, E, k⟩ := h
  simp only [ev] at k
  have k2 := evJ_bind hi k
  refine ⟨F, δ, E.l, ?_⟩
  refine kx_bind (f := R.ok) (by cases e : evJ Φ γ iter δ <;> (rw [e] at k2; exact k2)) (.refl _) fun y hy q => ?_
  obtain ⟨ds, items, rfl, hit, q⟩ := q
  refine ⟨ds, items, rfl, hit, fun vs F' H' S J e r fS jt => ?_⟩
  have q' : Kx _ H (if items.length < LIM then (compL (turnR Φ γ elt cond tg own δ) items >>= fun rs => R.ok (.lst .own rs)) else R.bad) _ := q
  split at q'
  case isFalse => exact q'.elim
  rename_i hz
  cases hrs : compL (turnR Φ γ elt cond tg own δ) items with
  | exc c => exact absurd hrs (compL_nx (fun d c => noX_nx _ c) items c)
  | bad => rw [hrs] at q'; exact q'.elim
  | ok rs =>
  rw [hrs] at q'
  have qq : ∀ v F' H' S, Ext F H F' H' → Rep K F' H' (.lst .own rs) v S → Fresh H S → Q v H' := q'
  have hn : ∀ c, c ∈ S → F' c = none := fun c hc => (reps_mem ds r c hc).2
  have ex := fz_ext e hn fS
  have rr := reps_frz (fz_same e.in' hn) ds r fun c hc => fz_at hc
  generalize fz F' H' S = F1 at ex rr
  have im := itm_of jt hit ex.in' rr
  intro p hp
  refine ⟨fun i m H2 => m = items.length - i ∧ i ≤ items.length ∧ ∃ F2 accD rest acc S2, compL (turnR Φ γ elt cond tg own δ) (items.drop i) = .ok rest ∧ rs = accD ++ rest ∧ Ext F1 H' F2 H2 ∧ F2 p = none ∧ H2 p = some (.lst acc) ∧
    Reps K F2 H2 accD acc S2 ∧ p ∉ S2 ∧ Fresh H S2 ∧ acc.length ≤ i, ⟨items.length, by simp, Nat.zero_le _, F1, [], rs, [], [], by simpa using hrs, rfl, ext_step ex.in' hp, free_in ex.in' hp, upd_same, reps_nil', (fun h => nomatch h), Fresh.nil, Nat.le_refl _⟩, ?_⟩
  rintro i m H2 ⟨rfl, hi', F2, accD, rest, acc, S2, c1, c2, e2, c3, c4, c5, c6, c7, c8⟩
  obtain ⟨j1, j2⟩ := im i F2 H2 e2
  by_cases hlt : i < items.length
  · refine .inr ?_
    have hd : items[i]? = some items[i] := List.getElem?_eq_getElem hlt
    obtain ⟨g1, g2⟩ := j1 _ hd
    rw [List.drop_eq_getElem_cons hlt] at c1
    obtain ⟨ro, rest', t1, t2, t3⟩ := compL_at c1
    obtain ⟨δ', b, a1, a2, a3⟩ := turnR_of t1
    refine ⟨g1, fun H3 => ∃ F2 accD rest acc S2, compL (turnR Φ γ elt cond tg own δ) (items.drop (i + 1)) = .ok rest ∧ rs = accD ++ rest ∧ Ext F1 H' F2 H3 ∧ F2 p = none ∧ H3 p = some (.lst acc) ∧
      Reps K F2 H3 accD acc S2 ∧ p ∉ S2 ∧ Fresh H S2 ∧ acc.length ≤ i + 1, fun H3 z => ⟨_, by omega, rfl, hlt, z⟩, fun x H3 hy => ?_⟩
    obtain ⟨F3, e3, r3⟩ := g2 x H3 hy
    have E3 : EnvF K T.N.length (elt.uses ++ cond.uses) F3 H3 (wipe σ (own.map (·.2))) (wipeD δ (own.map (·.2))) := ((E.r).ext ((ex.trans e2).trans e3)).wipe _
    refine asg_frz tg a1 (by simp only [D.frzs]; exact reps_one r3) E3 _ fun σ' E' w' => ⟨?_, ?_⟩
    · rw [w' _ hs]
      exact wipe_wipe fun v hv => hv
    have key : ∀ F4 H4, Ext F3 H3 F4 H4 → if b = true then tE K T.N.length Φ γ (fun _ _ _ => False) elt σ' H4 (fun y H5 => ∃ acc, H5 p = some (.lst acc) ∧ acc.length < sizeLine ∧ ∃ F2 accD rest acc' S2, compL (turnR Φ γ elt cond tg own δ) (items.drop (i + 1)) = .ok rest ∧ rs = accD ++ rest ∧ Ext F1 H' F2 (upd H5 p (.lst (acc ++ [y]))) ∧ F2 p = none ∧ (upd H5 p (.lst (acc ++ [y]))) p = some (.lst acc') ∧
        Reps K F2 (upd H5 p (.lst (acc ++ [y]))) accD acc' S2 ∧ p ∉ S2 ∧ Fresh H S2 ∧ acc'.length ≤ i + 1) else ∃ F2 accD rest acc S2, compL (turnR Φ γ elt cond tg own δ) (items.drop (i + 1)) = .ok rest ∧ rs = accD ++ rest ∧ Ext F1 H' F2 H4 ∧ F2 p = none ∧ H4 p = some (.lst acc) ∧
        Reps K F2 H4 accD acc S2 ∧ p ∉ S2 ∧ Fresh H S2 ∧ acc.length ≤ i + 1 := by
      intro F4 H4 e4
      have e24 := e3.trans e4
      have n2 : H2 p ≠ none := by rw [c4]; exact fun z => nomatch z
      rcases a3 with ⟨rfl, el, a3, rfl⟩ | ⟨rfl, rfl⟩
      · rw [if_pos rfl]
        refine ⟨F4, δ', (E'.l).ext e4, ?_⟩
        rw [a3]
        intro y F5 H5 S5 e5 r5 f5
        have e25 := e24.trans e5
        have h5 : H5 p = some (.lst acc) := e25.h _ _ c4
        have f5p : F5 p = none := e25.new p n2 c3
        have f52 : Fresh H2 S5 := f5.mono e24.h
        have p5 : p ∉ S5 := fun z => n2 (f52 p z)
        have of := off_upd (o := .lst (acc ++ [y])) h5
        refine ⟨acc, h5, Nat.lt_of_le_of_lt c8 (Nat.lt_trans hlt hz), F5, accD ++ [el], rest', acc ++ [y], S2 ++ S5, t2, ?_, ext_mod (e2.trans e25) hp f5p, f5p, upd_same, ?_, ?_, ?_, ?_⟩
        · rw [c2, t3]
          simp
        · exact reps_off of _ (reps_app (reps_ext e25 c5) (reps_one r5) (freshs_apart c5 f52)) fun z => (List.mem_append.mp z).elim c6 p5
        · exact fun z => (List.mem_append.mp z).elim c6 p5
        · exact fun a ha => (List.mem_append.mp ha).elim (c7 a) fun z => (ex.trans e2).h.free (f52 a z)
        · simp
          exact c8
      · rw [if_neg Bool.false_ne_true]
        exact ⟨F4, accD, rest', acc, S2, t2, by rw [c2, t3], e2.trans e24, e24.new p n2 c3, e24.h _ _ c4, reps_ext e24 c5, c6, c7, by omega⟩
    rcases ht with ⟨rfl, rfl⟩ | rfl
    · simp only [ev] at a2
      cases a2
      exact key F3 H3 (Ext.refl e3.in')
    · refine ⟨F3, δ', E'.r, ?_⟩
      rw [a2]
      exact ⟨b, rfl, key⟩
  · have ei : i = items.length := by omega
    refine .inl ⟨j2 (by omega), ?_⟩
    rw [ei, List.drop_length] at c1
    simp only [compL] at c1
    cases c1
    rw [List.append_nil] at c2
    subst c2
    refine qq _ F2 H2 (p :: S2) (ex.trans e2) ?_ fun a ha => ?_
    · simp only [Rep]
      exact ⟨p, acc, S2, rfl, c4, c3, c5, c6, rfl⟩
    · rcases List.mem_cons.mp ha with rfl | ha
      · exact ex.h.free hp
      · exact c7 a ha

theorem fold_of {e : Expr} (h : ∀ l k p, e ≠ .Set l k p) (env : Env) (x : Value) : foldedSetIterable e env x = pure x := by
  cases e <;> first | rfl | skip
  exact absurd rfl (h _ _ _)
theorem mt_noSet {m : M} : ∀ {l k p}, mt T m sc (.ex (.Set l k p)) = false := by
  intro l k p
  cases m <;> simp [mt]
theorem mt_it_form {m : M} {tg e : Expr} (h : mt T m sc (.it tg e) = true) : ((∃ a, m = .its a) ∨ ∃ k es, m = .it k es) ∧ ∀ l k p, e ≠ .Set l k p := by
  cases m <;> first | (simp [mt] at h; done) | skip
  · refine ⟨.inr ⟨_, _, rfl⟩, fun l k p z => ?_⟩
    subst z
    simp [mt] at h
  · refine ⟨.inl ⟨_, rfl⟩, fun l k p z => ?_⟩
    subst z
    simp [mt, mt_noSet] at h
theorem pp_comp {elt iter cond : M} (tg : Tg) (own : List (Str × Nat)) (ie : PP T Φ γ elt) (ii : PP T Φ γ iter) (ic : PP T Φ γ cond) : PP T Φ γ (.comp elt tg iter cond own) := by
  refine .plain (fun {XW sc X e} C h => ?_) (fun _ _ => by simp [mt]) (fun _ _ _ => by simp [mt])
  cases e <;> first | (simp [mt] at h; done) | skip
  rename_i el gs scope pos
  rcases gs with _ | ⟨⟨t, it, ifs, k⟩, _ | ⟨g2, gs⟩⟩ <;> first | (simp [mt] at h; done) | skip
  simp only [mt, Bool.and_eq_true, decide_eq_true_eq, List.all_eq_true] at h
  obtain ⟨⟨⟨⟨⟨⟨rfl, h1⟩, h2⟩, h3⟩, h4⟩, h5⟩, h6⟩ := h
  obtain ⟨form, nset⟩ := mt_it_form h4
  have hs : ∀ j, j ∈ tg.slots → j ∈ own.map (·.2) := fun j hj => by simpa using h3 j hj
  have hg : ∀ (s : Shared) (H : Hp) (Ca : Addr) (cl : List (Str × Addr)) (fp : List Addr), PG (X.blk s H scope (compEnvC scope cl Ca X.env) fp) t (fun v => gA X.K tg [v]) := fun s H Ca cl fp => (pg_ok (C.blk scope s H Ca cl fp) tg).1 t h2
  have he : ∀ (s : Shared) (H : Hp) (Ca : Addr) (cl : List (Str × Addr)) (fp : List Addr), PE (X.blk s H scope (compEnvC scope cl Ca X.env) fp) el (tE X.K T.N.length Φ γ (fun _ _ _ => False) elt) := fun s H Ca cl fp => ie.pe (C.blk scope s H Ca cl fp) h5
  refine ⟨?_, rfl⟩
  rcases ifs with _ | ⟨c, _ | ⟨c2, cs⟩⟩
  · have ey : cond = .yes := by cases cond <;> first | rfl | (simp [condB] at h6)
    exact (pe_lc C.calm C.nd (ii.pi C h4) (blk_ok C h1) hg (fun _ _ _ _ _ => pts_nil) he (fold_of nset _)).of fun σ H Q q => comp_read form hs (.inl ⟨ey, rfl⟩) q
  · simp only [Bool.and_eq_true] at h6
    exact (pe_lc C.calm C.nd (ii.pi C h4) (blk_ok C h1) hg (fun s H Ca cl fp => pts_one (ic.pt (C.blk scope s H Ca cl fp) h6.2)) he (fold_of nset _)).of fun σ H Q q => comp_read form hs (.inr rfl) q
  · simp at h6
theorem pp_mv (i : Nat) : PP T Φ γ (.mv i) := .plain (fun C h => by simp [mt] at h) (fun _ _ => by simp [mt]) (fun _ _ _ => by simp [mt])
theorem pp_mvT (i : Nat) : PP T Φ γ (.mvT i) := .plain (fun C h => by simp [mt] at h) (fun _ _ => by simp [mt]) (fun _ _ _ => by simp [mt])
theorem pp_keep (a : M) : PP T Φ γ (.keep a) := .plain (fun C h => by simp [mt] at h) (fun _ _ => by simp [mt]) (fun _ _ _ => by simp [mt])
theorem pp_thaw (a : M) : PP T Φ γ (.thaw a) := .plain (fun C h => by simp [mt] at h) (fun _ _ => by simp [mt]) (fun _ _ _ => by simp [mt])
theorem pp_yes : PP T Φ γ .yes := .plain (fun C h => by simp [mt] at h) (fun _ _ => by simp [mt]) (fun _ _ _ => by simp [mt])
/-- EVERY EXPRESSION -/
theorem pp_all (m : M) : PP T Φ γ m := by
  induction m with
  | slot i => exact pp_slot i
  | mv i => exact pp_mv i
  | mvT i => exact pp_mvT i
  | glob x => exact pp_glob x
  | int i => exact pp_int i
  | str i => exact pp_str i
  | bl i => exact pp_bl i
  | non => exact pp_non
  | bin op a b ia ib => exact pp_bin op ia ib
  | neg a ia => exact pp_neg ia
  | cmp op a b ia ib => exact pp_cmp op ia ib
  | chain o1 o2 a b c ia ib ic => exact pp_chain o1 o2 ia ib ic
  | not a ia => exact pp_not ia
  | and a b ia ib => exact pp_and ia ib
  | or a b ia ib => exact pp_or ia ib
  | nil => exact pp_nil
  | cons a b ia ib => exact pp_cons ia ib
  | tup a ia => exact pp_tup ia
  | list a ia => exact pp_list ia
  | sub a b ia ib => exact pp_sub ia ib
  | slice a b c ia ib ic => exact pp_slice ia ib ic
  | rev a ia => exact pp_rev ia
  | call f a ia => exact pp_call f ia
  | blt b a ia => exact pp_blt b ia
  | isi a t ia => exact pp_isi t ia
  | lenset a ia => exact pp_lenset ia
  | it k a ia => exact pp_it k ia
  | its a ia => exact pp_its ia
  | yes => exact pp_yes
  | chain3 o1 o2 o3 a b c d ia ib ic id' => exact pp_chain3 o1 o2 o3 ia ib ic id'
  | isx a x ia => exact pp_isx x ia
  | dnew c => exact pp_dnew c
  | dis1 c a b ia ib => exact pp_dis1 c ia ib
  | dis2 a b c d ia ib ic id' => exact pp_dis2 ia ib ic id'
  | get a b c ia ib ic => exact pp_get ia ib ic
  | cnt a b ia ib => exact pp_cnt ia ib
  | idx a b ia ib => exact pp_idx ia ib
  | split a b ia ib => exact pp_split ia ib
  | join a b ia ib => exact pp_join ia ib
  | lrange1 a ia => exact pp_lrange1 ia
  | lrange2 a b ia ib => exact pp_lrange2 ia ib
  | keep a ia => exact pp_keep a
  | thaw a ia => exact pp_thaw a
  | comp elt tg iter cond own ie ii ic => exact pp_comp tg own ie ii ic
end
end Mn

/-! MnX: list comprehensions out of which an exception may come. -/
namespace L2
open PySem PySem.Spec PyProof.Rows

/-- a block, and where its exceptions go -/
abbrev Cx.blkX (X : Cx) (s : Shared) (H : Hp) (scope : Scope) (ce : Env) (fp : List Addr) (xe : Value → Shared → Prop) : Cx := { X.blk s H scope ce fp with xe := xe }
/-- what a callee lets out is taken -/
def PassX (Y : Cx) (E : XK) : Prop := ∀ (ps : List (Addr × Obj)) (τ : St) (G : Hp) (t : Shared) (u : Value) (t' : Shared), Inv Y ps τ G t → CX Y.prog Y.w Y.stack G t E u t' → Y.xe u t'

section
variable {X : Cx} {W : WX} {E : XK} {pins : List (Addr × Obj)} {σ : St} {H3 : Hp} {s3 : Shared} {scope : Scope} {ce : Env} {fp : List Addr} {xe : Value → Shared → Prop}
theorem flies_out (hst : X.stack = X.env :: X.outer) (hfr : X.env.frame = some X.env.locals) (tk : Takes X W) (J3 : Inv X pins σ H3 s3) (hE : ∀ cl d G, E cl d G → W cl d σ G)
    (cL : ce.locals = s3.heap.objs.size) (cf : ce.frame = X.env.frame) (fo : ∀ b ∈ fp, FpOk X pins H3 b) {ps : List (Addr × Obj)} {τ : St} {H5 : Hp} {t t' : Shared} {u : Value}
    (J5 : Inv (X.blkX s3 H3 scope ce fp xe) ps τ H5 t) (cx : CX X.prog X.w X.stack H5 t E u t') : notedBy (model X.prog X.w) X.A ce (CompFails (model X.prog X.w) X.A X.xe ce) u t' := by
  obtain ⟨a, B, G, cl, d, rfl, fly, hokB, ub, na, hos, hag, hw⟩ := cx
  have old : ∀ b o, s3.heap.get? b = some o → b ≠ ce.locals := fun b o e z => by
    have := Heap.lt_size e
    rw [z, cL] at this
    exact Nat.lt_irrefl _ this
  have outC : ce.locals ∉ frs X.stack := fun hm => by
    obtain ⟨_, o, e, _⟩ := J3.stack.mem hm
    exact old _ _ e rfl
  have fC5 : H5 ce.locals = none := J5.free
  obtain ⟨mC, nC, _⟩ := J5.loc
  obtain ⟨oC, es, ep, eC, dC, rC⟩ := id (show t.heap.Ns ce.locals mC from nC)
  have bC : B.get? ce.locals = some oC := ub.keep _ oC eC fC5 outC
  have nsC : t'.heap.Ns ce.locals mC := ⟨oC, es, ep, fly.1 _ _ bC, dC, rC⟩
  have fC : G ce.locals = none := ub.free _ oC eC fC5
  obtain ⟨R, r1, r2⟩ := restrict t'.heap fun b => decide (b ≠ ce.locals) && ((B.get? b).isSome || decide (b ∈ frs X.stack))
  have rB : ∀ b o, b ≠ ce.locals → B.get? b = some o → R.get? b = some o := fun b o n e => by
    rw [r1 b (by simp [n, e])]
    exact fly.1 b o e
  have rF : ∀ b, b ∈ frs X.stack → R.get? b = t'.heap.get? b := fun b hb => r1 b (by
    have : b ≠ ce.locals := fun z => outC (z ▸ hb)
    simp [this, hb])
  have ofR : ∀ b o, R.get? b = some o → b ≠ ce.locals ∧ t'.heap.get? b = some o ∧ ((B.get? b).isSome = true ∨ b ∈ frs X.stack) := fun b o e => by
    cases q : (decide (b ≠ ce.locals) && ((B.get? b).isSome || decide (b ∈ frs X.stack))) with
    | false => rw [r2 b q] at e; cases e
    | true =>
      rw [r1 b q] at e
      simp only [Bool.and_eq_true, Bool.or_eq_true, decide_eq_true_eq] at q
      exact ⟨q.1, e, q.2⟩
  have u5 : Un (frs X.stack) fp H3 H5 s3.heap t.heap := J5.base
  have un : Un (frs X.stack) fp H3 G s3.heap R := by
    refine ⟨fun b o e n hb hc => ?_, fun b o e n hb hc => ?_, fun b o e n hc => ?_, fun b o e hc => ?_, fun b xs e => ub.tups _ _ (u5.tups _ _ e), fun b o v e => ub.frzs _ _ _ (u5.frzs _ _ _ e), fun b ps e => ?_⟩
    · exact rB b o (old b o e) (ub.keep b o (u5.keep b o e n hb hc) (u5.free b o e n hc) hb)
    · obtain ⟨sl, e1⟩ := u5.slot b o e n hb hc
      obtain ⟨sl2, e2⟩ := ub.slot b _ e1 hb
      exact ⟨sl2, by rw [rF b hb]; exact e2⟩
    · obtain ⟨o', e1⟩ := u5.there b o e hc
      exact ub.free b o' e1 (u5.free b o e n hc)
    · obtain ⟨o', e1⟩ := u5.there b o e hc
      by_cases hb : b ∈ frs X.stack
      · obtain ⟨sl, e2⟩ := ub.slot b o' e1 hb
        exact ⟨_, (rF b hb).trans e2⟩
      · obtain ⟨o2, e2⟩ := ub.there b o' e1 hb
        exact ⟨o2, rB b o2 (old b o e) e2⟩
    · obtain ⟨m1, e1⟩ := u5.tbls _ _ e
      obtain ⟨m2, e2⟩ := ub.tbls _ _ e1
      exact ⟨m1 ++ m2, by rw [e2, Array.append_assoc]⟩
  have hokR : HOk X.prog X.w G R := fun b o e => (hokB b o e).stay (fun c v hc q => rB c v (fun z => by
    rcases hc with w | w
    · rw [← w, z, fC] at e; cases e
    · rw [z, fC] at w; cases w) q) (fun _ q => q) fun _ _ q => q
  have J7 := J3.call (ch := fp) (h' := R) (g' := t'.gens) (t' := t'.toks) (d' := t'.drawn) un hokR hag (fun b hb => ⟨(fo b hb).2.2.2.1, (fo b hb).2.1, (fo b hb).2.2.2.2.1, (fo b hb).2.2.2.2.2⟩)
  -- noted in the def's own frame
  have hfr2 : X.A.frames = some (X.env :: X.outer) := by rw [J3.ok.frames, hst]
  rw [hst] at fly
  show wpAny _ _ (noteFrame (.ref a) ce) _ _ _
  rw [noteFrame_env _ cf]
  refine HandSPX.looks_onZ Zc.steady hfr2 hfr fly fun h1 held up1 => ?_
  refine ⟨mC, nsC.upToSlots up1, fun h2 m2 ns2 sb => ?_⟩
  obtain ⟨p1, p2, p3, oe, vs, T, oT, ts, he, hz, hd, hv1, nT, Tne, hT, hdT, ht3⟩ := held
  have neC : ∀ b, B.get? b = none → b ≠ ce.locals := fun b e z => by rw [z, bC] at e; cases e
  have he2 : h2.get? a = some oe := (sb.2 a (neC a p2)).trans he
  have hT2 : h2.get? T = some oT := (sb.2 T (neC T nT)).trans hT
  have ff2 : h2.FunFrames B (X.env :: X.outer) := Heap.FunFrames.sameBut sb ns2 p3
  have no : ∀ b, B.get? b = none → (PySem.W.hideAll B [ce.locals]).get? b = none := fun b e => by
    cases q : (PySem.W.hideAll B [ce.locals]).get? b with
    | none => rfl
    | some o =>
      have z := PySem.W.of_hideAll _ q
      rw [e] at z; cases z
  have held2 : HandSPX.HeldZ (PySem.W.hideAll B [ce.locals]) (X.env :: X.outer) a (Zc cl d) X.env.locals h2 := by
    refine ⟨fun b o e => ?_, no a p2, funFrames_none ff2 (fun L hL => no L (ff2.mem hL).1), oe, vs, T, oT, ts, he2, hz, hd, hv1, no T nT, Tne, hT2, hdT, ht3⟩
    have hb : b ≠ ce.locals := fun z => by
      rw [z, PySem.W.hideAll_none [ce.locals] (by simp)] at e
      cases e
    exact (sb.2 b hb).trans (p1 b o (PySem.W.of_hideAll _ e))
  unfold PySem.passOn
  refine wpAny_bind (wpAny_field he2 hd hv1 ?_)
  rw [if_neg (show ¬ ((Value.ref T == Value.none) = true) from by simp)]
  rw [cf, hfr]
  refine wpAny_bind (HandSPX.setFlight_onZ held2 fun h4 held4 up4 => wpAny_throw (tk _ _ ?_))
  refine ⟨a, PySem.W.hideAll B [ce.locals], _, pins, σ, G, cl, d, rfl, J7, fun b o e hb => ?_, fun b o e nf => ?_, .inr (.inr (by rw [hst]; exact held4)), na, hos.trans J5.os, hag, hE _ _ _ hw⟩
  · obtain ⟨n1, e1, e2⟩ := ofR b o e
    rcases e2 with e2 | e2
    · obtain ⟨o', q⟩ := Option.isSome_iff_exists.mp e2
      have z := fly.1 b o' q
      rw [e1] at z; cases z
      exact PySem.W.hideAll_get _ q (by simpa using n1)
    · exact absurd e2 hb
  · obtain ⟨n1, e1, _⟩ := ofR b o e
    obtain ⟨sl1, q1⟩ := up1 b o e1 nf
    have q2 : h2.get? b = some { o with slots := sl1 } := (sb.2 b n1).trans q1
    obtain ⟨sl2, q3⟩ := up4 b _ q2 nf
    exact ⟨sl2, q3⟩

/-! the comprehension -/
variable {elt tg iter : Expr} {ifs : List Expr} {own : List (Str × Nat)} {pos pos' : Pos} {wi : TI} {g : TG} {tt : TT} {te : TE} {use : Option (Value → Sem Unit)} {Qf : Value → Shared → Prop}
/-- what the block's parts owe -/
structure BlkParts (X : Cx) (E : XK) (scope : Scope) (tg : Expr) (ifs : List Expr) (elt : Expr) (g : TG) (tt : TT) (te : TE) : Prop where
  go : ∀ (s : Shared) (H : Hp) (Ca : Addr) (cl : List (Str × Addr)) (fp : List Addr) (xe : Value → Shared → Prop), PassX (X.blkX s H scope (compEnvC scope cl Ca X.env) fp xe) E →
    PG (X.blkX s H scope (compEnvC scope cl Ca X.env) fp xe) tg g ∧ PTs (X.blkX s H scope (compEnvC scope cl Ca X.env) fp xe) ifs tt ∧ PE (X.blkX s H scope (compEnvC scope cl Ca X.env) fp xe) elt te
theorem lc_coreE {s : Shared} {H : Hp} {Q : VK} (hc : X.calm = true) (hN : X.N.Nodup) (hst : X.stack = X.env :: X.outer) (hfr : X.env.frame = some X.env.locals) (tk : Takes X W) (hE : ∀ cl d G, E cl d G → W cl d σ G)
    (J1 : Inv X pins σ H s) (hi : PI X tg iter wi) (ok : BlkOk X.N X.env.scope scope own) (parts : BlkParts X E scope tg ifs elt g tt te) (hs : ∀ x, foldedSetIterable iter X.env x = pure x)
    (h : tLc wi g tt te (own.map (·.2)) σ H Q)
    (hRR : ∀ (ce : Env) D t m G, Inv X pins σ G t → Q (.ref D) G → t.heap.Ns ce.locals m → FpOk X pins G ce.locals → compEnds (model X.prog X.w) X.A X.xe use Qf (.ref D) ce (.ok .next) t) :
    wpAny (model X.prog X.w) X.A (comprehension (.ListComp elt [⟨tg, iter, ifs, 0⟩] scope pos) scope X.env pos' (newList []) false (eval iter X.env) use) Qf X.xe s := by
  have cells : ∀ y ∈ scope.names, y.2 = .free → ∃ c, X.env.cells.lookup y.1 = some c := fun y hy e => (ok.free y hy e).elim (fun k => J1.ok.has _ (.inl k)) fun k => J1.ok.has _ (.inr k)
  refine comprehension_at (use := use) rfl hs (closure_ok cells) ok.kind (fun y hy e => by rw [ok.uniq y hy, e]) (thn (hi.run pins s σ H _ J1 h) fun xv t1 hx => thn hx fun itv t2 h2 => ?_)
  obtain ⟨it, fp, tn, J, G2, rfl, J2, T, stn, fo2, q⟩ := h2
  refine wpAny_newObj_type (newEnv_comp ?_) (by show 0 ≤ sizeLine; decide)
  generalize hD : t2.heap.objs.size = D
  have fD : G2 D = none := J2.hok.fresh (Nat.le_of_eq hD)
  obtain ⟨V, ⟨v0, w0⟩, turn⟩ := q D fD
  generalize ht3 : ({ t2 with heap := t2.heap.push { cls := .type "list", data := .seq ([] : List Value).toArray } } : Shared) = t3
  have J3 : Inv X pins σ (upd G2 D (.lst [])) t3 := by
    subst ht3
    refine J2.laid (t' := t2.toks) (fun b o e => Heap.get?_push_of_some _ e) (Nat.le_of_eq hD) ⟨Nat.zero_le _, [], 0, .nil, ?_⟩
    rw [← hD]
    exact Heap.get?_push_size _ rfl
  have hp3 : t3.heap = t2.heap.push { cls := .type "list", data := .seq ([] : List Value).toArray } := by rw [← ht3]
  have fo3 : ∀ b ∈ fp, FpOk X pins (upd G2 D (.lst [])) b ∧ b < t3.heap.objs.size := fun b hb => by
    obtain ⟨o, e, _⟩ := T.obj _ _ stn b hb
    have lt := Heap.lt_size e
    refine ⟨⟨?_, (fo2 b hb).2⟩, by rw [hp3, Heap.size_push]; exact Nat.lt_succ_of_lt lt⟩
    rw [upd_ne (by rw [← hD]; exact Nat.ne_of_lt lt)]
    exact (fo2 b hb).1
  have st3 : tn 0 t3.heap := T.keep _ _ _ stn fun b _ o e => by
    rw [hp3]
    exact Heap.get?_push_of_some _ e
  generalize hG3 : upd G2 D (.lst []) = G3 at J3 w0 fo3
  have J4 := block_start J3 ok hN fo3
  show codeAny _ _ (.compStart (.ListComp elt [⟨tg, iter, ifs, 0⟩] scope pos) 0 (.ref it) (.ref D) (compEnvC scope (cellsFrom (t3.heap.objs.size + 1) scope.names (cloFrom X.env.cells scope.names [])) t3.heap.objs.size X.env))
    (compEnds (model X.prog X.w) X.A X.xe use Qf (.ref D) (compEnvC scope (cellsFrom (t3.heap.objs.size + 1) scope.names (cloFrom X.env.cells scope.names [])) t3.heap.objs.size X.env)) { t3 with heap := pushCells (t3.heap.push { cls := .type "dict", data := .dict #[] }) scope.names }
  have pp := parts.go t3 G3 t3.heap.objs.size (cellsFrom (t3.heap.objs.size + 1) scope.names (cloFrom X.env.cells scope.names [])) fp
  generalize hce : compEnvC scope (cellsFrom (t3.heap.objs.size + 1) scope.names (cloFrom X.env.cells scope.names [])) t3.heap.objs.size X.env = ce at J4 pp ⊢
  have cL : ce.locals = t3.heap.objs.size := by rw [← hce]; rfl
  have cf : ce.frame = X.env.frame := by rw [← hce]; rfl
  generalize ht4 : ({ t3 with heap := pushCells (t3.heap.push { cls := .type "dict", data := .dict #[] }) scope.names } : Shared) = t4 at J4 ⊢
  -- where the block's exceptions go
  obtain ⟨xe, hxe⟩ : ∃ xe, xe = notedBy (model X.prog X.w) X.A ce fun u t => compEnds (model X.prog X.w) X.A X.xe use Qf (.ref D) ce (.error u) t := ⟨_, rfl⟩
  have eq2 : (fun u t => compEnds (model X.prog X.w) X.A X.xe use Qf (.ref D) ce (.error u) t) = CompFails (model X.prog X.w) X.A X.xe ce := by
    funext u t
    cases use <;> rfl
  have pass : PassX (X.blkX t3 G3 scope ce fp xe) E := fun ps τ G t u t' I c => by
    show xe u t'
    rw [hxe, eq2]
    exact flies_out hst hfr tk J3 hE cL cf (fun b hb => (fo3 b hb).1) I c
  obtain ⟨pg, pt, pe⟩ := pp xe pass
  have B4 : Inv (X.blkX t3 G3 scope ce fp xe) [] (wipe σ (own.map (·.2))) G3 t4 := J4.toTry xe
  have st4 : tn 0 t4.heap := T.keep _ _ _ st3 fun b _ o e => by
    rw [← ht4]
    exact pushCells_keeps _ _ _ _ (Heap.get?_push_of_some _ e)
  have foB : ∀ {τ : St} {G : Hp} {t : Shared}, Inv (X.blkX t3 G3 scope ce fp xe) [] τ G t → (∀ b ∈ fp, G b = none) → ∀ b ∈ fp, FpOk (X.blkX t3 G3 scope ce fp xe) [] G b := fun {τ G t} I n b hb =>
    ⟨n b hb, (I.ok.exf b hb).1, I.ok.exfs b hb, .inl hb, fun x c e => (I.ok.exf b hb).2 x c e, fun p hp => absurd (show p ∈ ([] : List (Addr × Obj)) ++ [] from hp) (by simp)⟩
  have go : codeAny (model X.prog X.w) X.A (.compLoop (.ListComp elt [⟨tg, iter, ifs, 0⟩] scope pos) 0 (.ref it) (.ref D) ce) (compEnds (model X.prog X.w) X.A X.xe use Qf (.ref D) ce) t4 := by
    refine compLoop_any (fun n t => ∃ i G, Inv (X.blkX t3 G3 scope ce fp xe) [] (wipe σ (own.map (·.2))) G t ∧ tn i t.heap ∧ (∀ b ∈ fp, G b = none) ∧ V i n G) ?_ v0 ⟨0, G3, B4, st4, fun b hb => (fo3 b hb).1.1, w0⟩
    rw [← hxe]
    rintro n t5 ⟨i, G5, B5, st5, n5, w5⟩
    rcases turn i n G5 w5 with ⟨halt, fin⟩ | ⟨more, Nx, hNx, step⟩
    · refine thnF (T.done (X.blkX t3 G3 scope ce fp xe) rfl rfl rfl hc i [] t5 _ G5 (fun _ _ => False) B5 (foB B5 n5) st5 halt) fun r t6 ⟨hr, B6⟩ => ?_
      subst hr
      have J6 : Inv X pins σ G5 t6 := J3.call' (ch := fp) B6.os B6.base B6.hok B6.bare fun b hb => ⟨(fo3 b hb).1.2.2.2.1, (fo3 b hb).1.2.1, (fo3 b hb).1.2.2.2.2.1, (fo3 b hb).1.2.2.2.2.2⟩
      have fC : G5 ce.locals = none := B6.free
      obtain ⟨m, ns, _⟩ := B6.loc
      exact hRR ce D t6 m G5 J6 fin ns (J3.fpOk (by rw [cL]; exact Nat.le_refl _) fC)
    · refine thnF (T.item (X.blkX t3 G3 scope ce fp xe) rfl rfl rfl hc i [] t5 _ G5 (fun _ _ => False) B5 (foB B5 n5) st5 more) fun r t6 ⟨u, hr, h6⟩ => ?_
      subst hr
      refine thnF h6 fun _ t7 ⟨x, G7, B7, r7, y7, st7, n7⟩ => ?_
      have B7' := B7.pinned (foB B7 n7) (T.obj _ _ st7)
      refine wpAny_mono (pg.run _ t7 _ G7 x u _ B7' r7 (step x G7 y7)) (fun _ t8 ⟨τ8, G8, B8, hw8, q8⟩ => ?_) fun _ _ z => z
      refine wpAny_mono (pt.run _ t8 τ8 G8 _ B8 q8) (fun b t9 ⟨G9, B9, q9⟩ => ?_) fun _ _ z => z
      have next : ∀ {t : Shared} {G : Hp}, Inv (X.blkX t3 G3 scope ce fp xe) ([] ++ pinsAt fp t7.heap) τ8 G t → Nx G → ∃ m, m < n ∧ ∃ i G, Inv (X.blkX t3 G3 scope ce fp xe) [] (wipe σ (own.map (·.2))) G t ∧ tn i t.heap ∧ (∀ b ∈ fp, G b = none) ∧ V i m G := fun {t G} I nx => by
        obtain ⟨m', hm, w'⟩ := hNx G nx
        have held : ∀ b ∈ fp, ∀ o, t7.heap.get? b = some o → t.heap.get? b = some o ∧ G b = none := fun b hb o e =>
          let z := I.pin (b, o) (List.mem_append_right _ (List.mem_append_right _ (mem_pinsAt hb e)))
          ⟨z.1, z.2.1⟩
        refine ⟨m', hm, i + 1, G, (I.unpinned (pins := [])).weak (by rw [← hw8, wipe_length]) (fun j v e => ?_), T.keep _ _ _ st7 fun b hb o e => (held b hb o e).1, fun b hb => ?_, w'⟩
        · rw [← hw8] at e
          exact (wipe_some e).1
        · obtain ⟨o, e, _⟩ := T.obj _ _ st7 b hb
          exact (held b hb o e).2
      cases b with
      | false =>
        simp only [Bool.false_eq_true, if_false] at q9 ⊢
        exact next B9 q9
      | true =>
        simp only [if_true] at q9 ⊢
        refine wpAny_mono (pe.run _ t9 τ8 G9 _ B9 q9) (fun z t10 ⟨yv, G10, B10, r10, acc, d10, z10, nx⟩ => ?_) fun _ _ z => z
        exact app_ok (X := X.blkX t3 G3 scope ce fp xe) B10 d10 z10 r10 fun t11 B11 => next B11 nx
  exact codeAny_compStart_list go (T.self X.A 0 _ _ _ st4 go)
/-- as a value -/
theorem pe_lcE (hc : X.calm = true) (hN : X.N.Nodup) (hst : X.stack = X.env :: X.outer) (hfr : X.env.frame = some X.env.locals) (tk : Takes X W) (hi : PI X tg iter wi) (ok : BlkOk X.N X.env.scope scope own)
    {Ef : St → XK} {tef : St → TE} {ttf : St → TT} (hE : ∀ σ cl d G, Ef σ cl d G → W cl d σ G) (parts : ∀ σ, BlkParts X (Ef σ) scope tg ifs elt g (ttf σ) (tef σ)) (hs : ∀ x, foldedSetIterable iter X.env x = pure x) :
    PE X (.ListComp elt [⟨tg, iter, ifs, 0⟩] scope pos) (fun σ H Q => tLc wi g (ttf σ) (tef σ) (own.map (·.2)) σ H Q) := by
  refine ⟨fun pins s σ H Q I h => ?_⟩
  rw [eval_ListComp]
  refine lc_coreE hc hN hst hfr tk (hE σ) I hi ok (parts σ) hs h fun ce D t m G J q ns f => ⟨m, ns, fun h2 sb => ?_⟩
  obtain ⟨z0, z1, z2, z3, z4, z5⟩ := f
  exact ⟨.ref D, G, J.turned (t' := t.toks) (fun b o hb e => (sb.2 b hb).trans e) z0 z1 z3 z4 z5, rfl, q⟩
/-- name = [..] on one line, the name a local -/
theorem ps_setLcE {i : Nat} {y : Str} {py spos : Pos} (hc : X.calm = true) (hN : X.N.Nodup) (hst : X.stack = X.env :: X.outer) (hfr : X.env.frame = some X.env.locals) (tk : Takes X W) (hy : X.N[i]? = some y) (hyl : X.env.scope.names.lookup y = some .local)
    (hsw : swapsWith (.ListComp elt [⟨tg, iter, ifs, 0⟩] scope pos) (some (.Name y py)) spos.line X.env = pure true) (hi : PI X tg iter wi) (ok : BlkOk X.N X.env.scope scope own)
    {Ef : St → XK} {tef : St → TE} {ttf : St → TT} (hE : ∀ σ cl d G, Ef σ cl d G → W cl d σ G) (parts : ∀ σ, BlkParts X (Ef σ) scope tg ifs elt g (ttf σ) (tef σ)) (hs : ∀ x, foldedSetIterable iter X.env x = pure x) :
    PS X (.Assign [.Name y py] (.ListComp elt [⟨tg, iter, ifs, 0⟩] scope pos) spos) (fun D σ H => tLc wi g (ttf σ) (tef σ) (own.map (·.2)) σ H fun x H1 => gName i x σ H1 D.nx) := by
  refine ⟨fun pins s σ H D I h => ?_⟩
  rw [exec_Assign_Name_used _ _ _ _ hsw]
  refine wpAny_bind (wpAny_standAt (wpAny_bind ?_))
  show wpAny _ X.A (do let _ ← comprehension (.ListComp elt [⟨tg, iter, ifs, 0⟩] scope pos) scope X.env (firstIterPos [⟨tg, iter, ifs, 0⟩] pos) (newList []) false (eval iter X.env) (some (assign (.Name y py) X.env))) _ _ s
  refine wpAny_bind (thn (lc_coreE (Qf := fun _ t => SP X pins D .next t) hc hN hst hfr tk (hE σ) I hi ok (parts σ) hs h fun ce L t m G J q ns f => ?_) fun _ t hq => wpAny_pure (wpAny_pure hq))
  show wpAny _ _ (assign (.Name y py) X.env (.ref L)) _ _ _
  refine wpAny_assign_Name (store_ok2 (v := V.ref L) J hN hy (.inl hyl) rfl (fun t2 J2 ⟨a, sb, ha⟩ => ?_) (.inr hyl))
  obtain ⟨z0, z1, z2, z3, z4, z5⟩ := f
  have ne : ce.locals ≠ a := ha.elim (fun z => by rw [z]; exact z1) fun z e => z4 y a z e.symm
  refine ⟨m, ns.sameBut sb ne, fun h4 sb4 => ?_⟩
  exact ⟨_, G, J2.turned (t' := t2.toks) (fun b o hb e => (sb4.2 b hb).trans e) z0 z1 z3 z4 z5, q⟩
end
end L2
namespace Mn
open PySem PySem.Spec L2
open PyProof.Rows hiding St

/-- one turn of a comprehension out of which an exception may come -/
def turnX (Φ : Fn) (γ : Gn) (elt cond : M) (tg : Tg) (own : List (Str × Nat)) (δ : List D) (d : D) : R (Option D) := asg true tg [d] (wipeD δ (own.map (·.2))) >>= fun δ' => ev Φ γ cond δ' >>= fun c => blOf c >>= fun q => if q then (ev Φ γ elt δ' >>= fun e => .ok (some e)) else .ok none
/-- .. and all of it -/
def evC (Φ : Fn) (γ : Gn) (m : M) (δ : List D) : R D := match m with
  | .comp elt tg iter cond own => ev Φ γ iter δ >>= fun y => tupOf y >>= fun ds => if ds.length < LIM then (compL (turnX Φ γ elt cond tg own δ) ds >>= fun rs => .ok (.lst .own rs)) else .bad
  | _ => .bad
theorem asg_nxX {fz : Bool} : ∀ (tg : Tg) {ds δ : List D} {c : Str}, asg fz tg ds δ ≠ .exc c := by
  intro tg
  induction tg with
  | nm i => intro ds δ c h; rcases ds with _ | ⟨d, _ | ⟨e, ds⟩⟩ <;> simp [asg] at h
  | tup ts ih =>
    intro ds δ c h
    rcases ds with _ | ⟨d, _ | ⟨e, ds⟩⟩ <;> first | (simp [asg] at h; done) | skip
    cases d <;> first | (simp [asg] at h; done) | skip
    all_goals
      simp only [asg] at h
      exact ih h
  | nil => intro ds δ c h; cases ds <;> simp [asg] at h
  | cons t ts i1 i2 =>
    intro ds δ c h
    cases ds with
    | nil => simp [asg] at h
    | cons d ds =>
      simp only [asg] at h
      cases e : asg fz t [d] δ with
      | ok δ1 => rw [e] at h; exact i2 h
      | exc c' => exact i1 e
      | bad => rw [e] at h; cases h
section
variable {T : Tab} {Φ : Fn} {γ : Gn} {XW : XWs} {sc : Scope} {X : Cx}
/-- what the def wishes of exceptions, in a block that began at σ -/
def XWs.at (XW : XWs) (σ : St) : XWs := fun c _ H => XW c σ H
theorem Cok.blkX (C : Cok T Φ γ XW sc X) (scope : Scope) (s : Shared) (H : Hp) (Ca : Addr) (cl : List (Str × Addr)) (fp : List Addr) (xe : Value → Shared → Prop) (σ : St) (pass : PassX (X.blkX s H scope (compEnvC scope cl Ca X.env) fp xe) (wishE X.mg fun c => XW c σ)) :
    Cok T Φ γ (XW.at σ) scope (X.blkX s H scope (compEnvC scope cl Ca X.env) fp xe) where
  calm := C.calm
  nN := C.nN
  nd := C.nd
  keep := fun x k h hk => lookup_relS_keep (sc := X.env.scope) hk h
  free := fun x h => lookup_relS_free (sc := X.env.scope) h
  cell := fun x h => by
    show (scope.names.lookup x == some .cell) = true
    rw [h]
    rfl
  units := C.units
  bl := C.bl
  call := C.call
  pass := fun pins τ G s e s' I h => pass pins τ G s e s' I h
  cls := fun c τ H' z => C.cls c σ H' z
  exk := C.exk
  glob := C.glob
def tC (K : PySem.W.Frag) (n : Nat) (Φ : Fn) (γ : Gn) (XW : XWs) (m : M) : TE := fun σ H Q => ∃ F δ, EnvF K n m.uses F H σ δ ∧ Kt K (fun c => XW c σ) F H (evC Φ γ m δ) Q
theorem compL_ne {f : D → R (Option D)} {d : D} {ds : List D} : compL f (d :: ds) = (f d >>= fun r => compL f ds >>= fun rs => match r with | some e => R.ok (e :: rs) | none => R.ok rs) := rfl
/-- what stands already ahead of what comes -/
def catR (acc : List D) : R (List D) → R (List D)
  | .ok rs => .ok (acc ++ rs)
  | .exc c => .exc c
  | .bad => .bad
theorem comp_readE {K : PySem.W.Frag} {elt iter cond : M} {tg : Tg} {own : List (Str × Nat)} {σ : St} {H : Hp} {Q : VK} {tt : TT} (hi : (∃ a, iter = .its a) ∨ ∃ k es, iter = .it k es) (hs : ∀ j, j ∈ tg.slots → j ∈ own.map (·.2))
    (ht : (cond = .yes ∧ tt = tYes) ∨ tt = tT K T.N.length Φ γ (XW.at σ) cond) (h : tC K T.N.length Φ γ XW (.comp elt tg iter cond own) σ H Q) :
    tLc (tJ K T.N.length Φ γ XW iter) (fun v => gA K tg [v]) tt (tE K T.N.length Φ γ (XW.at σ) elt) (own.map (·.2)) σ H Q := by
  obtain ⟨F, δ, E, k⟩ := h
  simp only [evC] at k
  have k2 := evJ_bind hi k
  refine ⟨F, δ, E.l, ?_⟩
  refine kx_bind (f := R.ok) (by cases e : evJ Φ γ iter δ <;> (rw [e] at k2; exact k2)) (.refl _) fun y hy q => ?_
  obtain ⟨ds, items, rfl, hit, q⟩ := q
  refine ⟨ds, items, rfl, hit, fun vs F' H' S J e r fS jt => ?_⟩
  have q' : Kx (fun c => XW c σ) H (if items.length < LIM then (compL (turnX Φ γ elt cond tg own δ) items >>= fun rs => R.ok (.lst .own rs)) else R.bad) _ := q
  split at q'
  case isFalse => exact q'.elim
  rename_i hz
  generalize hres : compL (turnX Φ γ elt cond tg own δ) items = res at q'
  have hn : ∀ c, c ∈ S → F' c = none := fun c hc => (reps_mem ds r c hc).2
  have ex := fz_ext e hn fS
  have rr := reps_frz (fz_same e.in' hn) ds r fun c hc => fz_at hc
  generalize fz F' H' S = F1 at ex rr
  have im := itm_of jt hit ex.in' rr
  intro p hp
  refine ⟨fun i m H2 => m = items.length - i ∧ i ≤ items.length ∧ ∃ F2 accD acc S2, catR accD (compL (turnX Φ γ elt cond tg own δ) (items.drop i)) = res ∧ Ext F1 H' F2 H2 ∧ F2 p = none ∧ H2 p = some (.lst acc) ∧
    Reps K F2 H2 accD acc S2 ∧ p ∉ S2 ∧ Fresh H S2 ∧ acc.length ≤ i, ⟨items.length, by simp, Nat.zero_le _, F1, [], [], [], by rw [List.drop_zero, hres]; cases res <;> rfl, ext_step ex.in' hp, free_in ex.in' hp, upd_same, reps_nil', (fun h => nomatch h), Fresh.nil, Nat.le_refl _⟩, ?_⟩
  rintro i m H2 ⟨rfl, hi', F2, accD, acc, S2, c1, e2, c3, c4, c5, c6, c7, c8⟩
  obtain ⟨j1, j2⟩ := im i F2 H2 e2
  have nobad : res ≠ .bad := fun z => by rw [z] at q'; exact q'.elim
  have exc : ∀ c, res = .exc c → ∀ G, Same H G → XW c σ G := fun c z G sm => by
    rw [z] at q'
    exact q' G sm
  by_cases hlt : i < items.length
  · refine .inr ?_
    have hd : items[i]? = some items[i] := List.getElem?_eq_getElem hlt
    obtain ⟨g1, g2⟩ := j1 _ hd
    rw [List.drop_eq_getElem_cons hlt, compL_ne] at c1
    refine ⟨g1, fun H3 => ∃ F2 accD acc S2, catR accD (compL (turnX Φ γ elt cond tg own δ) (items.drop (i + 1))) = res ∧ Ext F1 H' F2 H3 ∧ F2 p = none ∧ H3 p = some (.lst acc) ∧
      Reps K F2 H3 accD acc S2 ∧ p ∉ S2 ∧ Fresh H S2 ∧ acc.length ≤ i + 1, fun H3 z => ⟨_, by omega, rfl, hlt, z⟩, fun x H3 hy => ?_⟩
    obtain ⟨F3, e3, r3⟩ := g2 x H3 hy
    have E3 : EnvF K T.N.length (elt.uses ++ cond.uses) F3 H3 (wipe σ (own.map (·.2))) (wipeD δ (own.map (·.2))) := ((E.r).ext ((ex.trans e2).trans e3)).wipe _
    generalize hf : turnX Φ γ elt cond tg own δ items[i] = f1 at c1
    have f1bad : f1 ≠ .bad := fun z => by rw [z] at c1; exact nobad c1.symm
    unfold turnX at hf
    cases a1 : asg true tg [items[i]] (wipeD δ (own.map (·.2))) with
    | exc c => exact absurd a1 (asg_nxX tg)
    | bad => rw [a1] at hf; exact absurd hf.symm f1bad
    | ok δ' =>
    rw [a1] at hf
    have hf : (ev Φ γ cond δ' >>= fun c => blOf c >>= fun q => if q then (ev Φ γ elt δ' >>= fun e => .ok (some e)) else .ok none) = f1 := hf
    refine asg_frz tg a1 (by simp only [D.frzs]; exact reps_one r3) E3 _ fun σ' E' w' => ⟨?_, ?_⟩
    · rw [w' _ hs]
      exact wipe_wipe fun v hv => hv
    have sH : ∀ {F4 H4}, Ext F3 H3 F4 H4 → Same H H4 := fun {F4 H4} e4 => ((ex.trans e2).trans (e3.trans e4)).h
    have key : ∀ (b : Bool), (if b then (ev Φ γ elt δ' >>= fun e => R.ok (some e)) else R.ok none) = f1 → ∀ F4 H4, Ext F3 H3 F4 H4 → if b = true then tE K T.N.length Φ γ (XW.at σ) elt σ' H4 (fun y H5 => ∃ acc, H5 p = some (.lst acc) ∧ acc.length < sizeLine ∧ ∃ F2 accD acc' S2, catR accD (compL (turnX Φ γ elt cond tg own δ) (items.drop (i + 1))) = res ∧ Ext F1 H' F2 (upd H5 p (.lst (acc ++ [y]))) ∧ F2 p = none ∧ (upd H5 p (.lst (acc ++ [y]))) p = some (.lst acc') ∧
        Reps K F2 (upd H5 p (.lst (acc ++ [y]))) accD acc' S2 ∧ p ∉ S2 ∧ Fresh H S2 ∧ acc'.length ≤ i + 1) else ∃ F2 accD acc S2, catR accD (compL (turnX Φ γ elt cond tg own δ) (items.drop (i + 1))) = res ∧ Ext F1 H' F2 H4 ∧ F2 p = none ∧ H4 p = some (.lst acc) ∧
        Reps K F2 H4 accD acc S2 ∧ p ∉ S2 ∧ Fresh H S2 ∧ acc.length ≤ i + 1 := by
      intro b hb F4 H4 e4
      have e24 := e3.trans e4
      have n2 : H2 p ≠ none := by rw [c4]; exact fun z => nomatch z
      cases b with
      | true =>
        rw [if_pos rfl] at hb ⊢
        refine ⟨F4, δ', (E'.l).ext e4, ?_⟩
        cases a3 : ev Φ γ elt δ' with
        | bad => rw [a3] at hb; exact absurd hb.symm f1bad
        | exc c =>
          rw [a3] at hb
          have hb : R.exc c = f1 := hb
          rw [← hb] at c1
          have c1 : R.exc c = res := c1
          exact fun G sm => exc c c1.symm G ((sH e4).trans sm)
        | ok el =>
          rw [a3] at hb
          have hb : R.ok (some el) = f1 := hb
          rw [← hb] at c1
          intro y F5 H5 S5 e5 r5 f5
          have e25 := e24.trans e5
          have h5 : H5 p = some (.lst acc) := e25.h _ _ c4
          have f5p : F5 p = none := e25.new p n2 c3
          have f52 : Fresh H2 S5 := f5.mono e24.h
          have p5 : p ∉ S5 := fun z => n2 (f52 p z)
          have of := off_upd (o := .lst (acc ++ [y])) h5
          refine ⟨acc, h5, Nat.lt_of_le_of_lt c8 (Nat.lt_trans hlt hz), F5, accD ++ [el], acc ++ [y], S2 ++ S5, ?_, ext_mod (e2.trans e25) hp f5p, f5p, upd_same, ?_, ?_, ?_, ?_⟩
          · rw [← c1]
            show catR (accD ++ [el]) _ = catR accD (compL _ _ >>= fun rs => R.ok (el :: rs))
            cases compL (turnX Φ γ elt cond tg own δ) (items.drop (i + 1)) <;> simp [catR]
          · exact reps_off of _ (reps_app (reps_ext e25 c5) (reps_one r5) (freshs_apart c5 f52)) fun z => (List.mem_append.mp z).elim c6 p5
          · exact fun z => (List.mem_append.mp z).elim c6 p5
          · exact fun a ha => (List.mem_append.mp ha).elim (c7 a) fun z => (ex.trans e2).h.free (f52 a z)
          · simp
            exact c8
      | false =>
        rw [if_neg Bool.false_ne_true] at hb ⊢
        rw [← hb] at c1
        refine ⟨F4, accD, acc, S2, ?_, e2.trans e24, e24.new p n2 c3, e24.h _ _ c4, reps_ext e24 c5, c6, c7, by omega⟩
        rw [← c1]
        show _ = catR accD (compL _ _ >>= fun rs => R.ok rs)
        cases compL (turnX Φ γ elt cond tg own δ) (items.drop (i + 1)) <;> rfl
    rcases ht with ⟨rfl, rfl⟩ | rfl
    · simp only [ev] at hf
      exact key true hf F3 H3 (Ext.refl e3.in')
    · refine ⟨F3, δ', E'.r, ?_⟩
      cases a2 : ev Φ γ cond δ' with
      | bad => rw [a2] at hf; exact absurd hf.symm f1bad
      | exc c =>
        rw [a2] at hf
        have hf : R.exc c = f1 := hf
        rw [← hf] at c1
        have c1 : R.exc c = res := c1
        exact fun G sm => exc c c1.symm G ((sH (Ext.refl e3.in')).trans sm)
      | ok cd =>
        rw [a2] at hf
        cases cd <;> first | exact absurd (show R.bad = f1 from hf).symm f1bad | skip
        rename_i b
        exact ⟨b, rfl, key b hf⟩
  · have ei : i = items.length := by omega
    refine .inl ⟨j2 (by omega), ?_⟩
    rw [ei, List.drop_length] at c1
    have c1 : R.ok (accD ++ []) = res := c1
    rw [← c1, List.append_nil] at q'
    have qq : ∀ v F' H' S, Ext F H F' H' → Rep K F' H' (.lst .own accD) v S → Fresh H S → Q v H' := q'
    refine qq _ F2 H2 (p :: S2) (ex.trans e2) ?_ fun a ha => ?_
    · simp only [Rep]
      exact ⟨p, acc, S2, rfl, c4, c3, c5, c6, rfl⟩
    · rcases List.mem_cons.mp ha with rfl | ha
      · exact ex.h.free hp
      · exact c7 a ha
end
end Mn

/-! MnG: statements: syntax, evaluator, look; the state with owners. -/
namespace Mn
open PySem PySem.Spec L2
open PyProof.Rows hiding St

inductive Pl where
  | nm (i : Nat)
  | ix (p : Pl) (k : Nat)

inductive S where
  | nil
  | cons (s ss : S)
  | pass
  | set (tg : Tg) (e : M)
  | setC (i : Nat) (e : M)
  | setCK (i : Nat) (e : M)
  | setCO (i : Nat) (e : M)
  | par (i j : Nat) (a b : M)
  | app (p : Pl) (e : M)
  | ins (p : Pl) (i e : M)
  | clr (p : Pl)
  | pop (p : Pl)
  | setPop (i : Nat) (p : Pl)
  | setIx (p : Pl) (i e : M)
  | aug (i : Nat) (e : M)
  | ife (c : M) (a b : S)
  | whl (c : M) (b : S)
  | fr (tg : Tg) (iter : M) (b : S)
  | ret (e : M)
  | retN
  | drop (e : M)
  | rais (c : Str)
  | fclr (tg : Tg) (p q : Pl)
  | fapp (tg : Tg) (p q : Pl) (i : Int)
  | fappE (i j : Nat) (p : Pl)
  | swp2 (p : Pl) (i j e : M)
  | tryk (i e : Nat) (b : S)
  | popAt (p : Pl) (i : M)
  | scope (U : List Nat) (s : S)
  | frO (i : Nat) (tg : Tg) (b : S)
  | setCX (i : Nat) (e : M)
  | retCX (e : M)

/-- the slots that a statement sets -/
def S.sets : S → List Nat
  | .cons s ss => s.sets ++ ss.sets
  | .set tg _ => tg.slots
  | .setC i _ => [i]
  | .setCK i _ => [i]
  | .setCO i _ => [i]
  | .setCX i _ => [i]
  | .par i j _ _ => [i, j]
  | .setPop i _ => [i]
  | .aug i _ => [i]
  | .ife _ a b => a.sets ++ b.sets
  | .whl _ b => b.sets
  | .fr tg _ b => tg.slots ++ b.sets
  | .fclr tg _ _ => tg.slots
  | .fapp tg _ _ _ => tg.slots
  | .fappE i j _ => [i, j]
  | .tryk i e b => i :: e :: b.sets
  | .scope _ s => s.sets
  | .frO i tg b => i :: (tg.slots ++ b.sets)
  | _ => []
inductive O where
  | next (δ : List D) | ret (d : D) | exc (c : Str) (δ : List D) | bad
def O.of (δ : List D) : R (List D) → O
  | .ok δ' => .next δ'
  | .exc c => .exc c δ
  | .bad => .bad
def O.thn : O → (List D → O) → O
  | .next δ, f => f δ
  | o, _ => o

/-- the slots U frozen -/
def frzU (U : List Nat) : Nat → List D → List D
  | _, [] => []
  | k, d :: ds => (if k ∈ U then d.frz else d) :: frzU U (k + 1) ds

/-- an expression at the top of a statement: what it reads of others' is frozen -/
def evX (Φ : Fn) (γ : Gn) (e : M) (δ : List D) : R (D × List D) := do
  let d ← ev Φ γ e (D.frzs δ)
  if d.pur then .ok (d, δ) else .ok (d, frzU e.uses 0 δ)
mutual
/-- the frozen lists within -/
def D.ffs : D → List (List D)
  | .tup ds => D.ffss ds
  | .lst .frz ds => ds :: D.ffss ds
  | .lst _ ds => D.ffss ds
  | _ => []
def D.ffss : List D → List (List D)
  | [] => []
  | d :: ds => d.ffs ++ D.ffss ds
end
mutual
/-- no dict, no list that is read alone -/
def D.plain : D → Bool
  | .any => false
  | .tup ds => D.plains ds
  | .lst .ro _ => false
  | .lst _ ds => D.plains ds
  | .dct _ _ _ _ => false
  | _ => true
def D.plains : List D → Bool
  | [] => true
  | d :: ds => d.plain && D.plains ds
end
mutual
/-- owns nothing -/
def D.bare : D → Bool
  | .tup ds => D.bares ds
  | .lst .own _ => false
  | .lst _ ds => D.bares ds
  | .dct .own _ _ _ => false
  | _ => true
def D.bares : List D → Bool
  | [] => true
  | d :: ds => d.bare && D.bares ds
end
/-- never the same list -/
def disL (es ds : List D) : Bool := decide (es.length ≠ ds.length) || (match es, ds with
  | .int _ :: _, .tup _ :: _ => true
  | .tup _ :: _, .int _ :: _ => true
  | .int _ :: _, .lst .frz _ :: _ => true
  | _, _ => false)
/-- the list y can't be within d -/
def awayD (d y : D) : Bool := match y with
  | .lst .own ds => D.bares ds && d.plain && d.ffs.all fun es => disL es ds
  | _ => false
/-- an expression at the top of a statement: what it reads of others' is frozen, unless it can't be within its answer -/
def evK (Φ : Fn) (γ : Gn) (e : M) (δ : List D) : R (D × List D) := do
  let d ← ev Φ γ e (D.frzs δ)
  if d.pur then .ok (d, δ) else .ok (d, frzU (e.uses.filter fun i => !awayD d (δ.getD i .any)) 0 δ)
mutual
/-- unlike, for certain -/
def D.dif : D → D → Bool
  | .int i, .int j => decide (i ≠ j)
  | .str s, .str t => decide (s ≠ t)
  | .tup ds, .tup es => D.difs ds es
  | .lst k ds, .lst k' es => decide (k ≠ .ro) && decide (k' ≠ .ro) && D.difs ds es
  | .int _, .lst _ _ => true
  | .lst _ _, .int _ => true
  | .int _, .tup _ => true
  | .tup _, .int _ => true
  | _, _ => false
def D.difs : List D → List D → Bool
  | [], [] => false
  | [], _ :: _ => true
  | _ :: _, [] => true
  | d :: ds, e :: es => d.dif e || D.difs ds es
end
mutual
/-- what was frozen is owned -/
def D.thaw : D → D
  | .tup ds => .tup (D.thaws ds)
  | .lst _ ds => .lst .own (D.thaws ds)
  | d => d
def D.thaws : List D → List D
  | [] => []
  | d :: ds => d.thaw :: D.thaws ds
end
/-- the slots U told nothing of -/
def anyU (U : List Nat) : Nat → List D → List D
  | _, [] => []
  | k, d :: ds => (if k ∈ U then .any else d) :: anyU U (k + 1) ds
/-- the slots that own all that is theirs, seen -/
def vuO : List D → List D
  | [] => []
  | d :: ds => (if d.pur then d.frz else .any) :: vuO ds
/-- all its lists are unlike -/
def sepD (d : D) : Bool := d.plain && decide (d.ffs.Pairwise fun a b => D.difs a b = true)
/-- an expression at the top of a statement: it reads own slots alone, they are spent, and what it tells is owned -/
def evO (Φ : Fn) (γ : Gn) (e : M) (δ : List D) : R (D × List D) := do
  let d ← ev Φ γ e (vuO δ)
  if d.pur then .ok (d, δ) else if sepD d then .ok (d.thaw, anyU e.uses 0 δ) else .bad
def rd : D → R D
  | .any => .bad
  | d => .ok d
theorem rd_of {d : D} (h : d ≠ .any) : rd d = .ok d := by cases d <;> first | rfl | exact absurd rfl h
/-- a tuple but its first -/
def tlT : D → List D → R (D × List D)
  | .tup (_ :: ds), δ => .ok (.tup ds, δ)
  | _, _ => .bad
def evT (Φ : Fn) (γ : Gn) : M → List D → R (D × List D)
  | .mvT i, δ => tlT (getD' δ i) (δ.set i .any)
  | .mv i, δ => do
      let d ← rd (getD' δ i)
      .ok (d, δ.set i .any)
  | .nil, δ => .ok (.tup [], δ)
  | .cons a as, δ => do
      let (x, δ1) ← evT Φ γ a δ
      let (y, δ2) ← evT Φ γ as δ1
      let l ← tupOf y
      .ok (.tup (x :: l), δ2)
  | .tup es, δ => do
      let (y, δ1) ← evT Φ γ es δ
      let l ← tupOf y
      if l.length ≤ LIM then .ok (.tup l, δ1) else .bad
  | .keep e, δ => evK Φ γ e δ
  | .thaw e, δ => evO Φ γ e δ
  | e, δ => evX Φ γ e δ

def getP (δ : List D) : Pl → D
  | .nm i => getD' δ i
  | .ix p k => match getP δ p with
    | .lst .own ds => ds.getD k .any
    | .tup ds => ds.getD k .any
    | _ => .any
def setP (δ : List D) : Pl → D → List D
  | .nm i, d => δ.set i d
  | .ix p k, d => match getP δ p with
    | .lst .own ds => setP δ p (.lst .own (ds.set k d))
    | .tup ds => setP δ p (.tup (ds.set k d))
    | _ => δ
def ownAt (δ : List D) (p : Pl) : R (List D) := match getP δ p with
  | .lst .own ds => .ok ds
  | _ => .bad

/-- what a loop holds in its i-th turn -/
def anys (n : Nat) : List D := List.replicate n .any
def left (iter : M) (args : List D) (i : Nat) : List D := match iter, args with
  | .its _, [.lst .own ds] => [.lst .own (anys i ++ ds.drop i)]
  | .its _, [.tup ds] => [.tup (anys i ++ ds.drop i)]
  | .it .enum _, [.lst .own ds] => [.lst .own (anys i ++ ds.drop i)]
  | _, _ => args
/-- a loop's source -/
def evI (Φ : Fn) (γ : Gn) (m : M) (δ : List D) : R (List D × List D) := match m with
  | .its a => do
      let (d, δ1) ← evT Φ γ a δ
      .ok ([d], δ1)
  | .it .zip es => do
      let (y, δ1) ← evT Φ γ es δ
      let l ← tupOf y
      .ok (D.frzs l, δ1)
  | .it _ es => do
      let (y, δ1) ← evT Φ γ es δ
      let l ← tupOf y
      .ok (l, δ1)
  | _ => .bad

theorem evI_it {Φ : Fn} {γ : Gn} {k : Ik} {es : M} {δ : List D} (h : k ≠ .zip) : evI Φ γ (.it k es) δ = (evT Φ γ es δ >>= fun y => tupOf y.1 >>= fun l => .ok (l, y.2)) := by cases k <;> first | rfl | exact absurd rfl h
def loopF (f : D → List D → O) : List D → List D → O
  | [], δ => .next δ
  | d :: ds, δ => (f d δ).thn (loopF f ds)
def loopW (c : List D → R D) (b : List D → O) : Nat → List D → O
  | 0, _ => .bad
  | n + 1, δ => match c δ with
    | .ok (.bl true) => (b δ).thn (loopW c b n)
    | .ok (.bl false) => .next δ
    | .ok _ => .bad
    | .exc c => .exc c δ
    | .bad => .bad
/-- by a test -/
def O.ifR (δ : List D) : R D → O → O → O
  | .ok (.bl true), a, _ => a
  | .ok (.bl false), _, b => b
  | .ok _, _, _ => .bad
  | .exc c, _, _ => .exc c δ
  | .bad, _, _ => .bad

/-- for T in P: Q.clear() (k turns of n are left) -/
def fclrL (tg : Tg) (p q : Pl) (n : Nat) : Nat → List D → O
  | 0, δ => match ownAt δ p with
    | .ok ds => if ds.length = n then .next δ else .bad
    | _ => .bad
  | k + 1, δ => match ownAt δ p with
    | .ok ds => (match ds[n - (k + 1)]? with
      | some d => if ds.length = n then (match asg false tg [d] (setP δ p (.lst .own (ds.set (n - (k + 1)) .any))) with
          | .ok δ1 => (match ownAt δ1 q with
            | .ok _ => fclrL tg p q n k (setP δ1 q (.lst .own []))
            | _ => .bad)
          | _ => .bad) else .bad
      | none => .bad)
    | _ => .bad
/-- for T in P: Q.append(i) (k turns of n are left) -/
def fappL (tg : Tg) (p q : Pl) (j : Int) (n : Nat) : Nat → List D → O
  | 0, δ => match ownAt δ p with
    | .ok ds => if ds.length = n then .next δ else .bad
    | _ => .bad
  | k + 1, δ => match ownAt δ p with
    | .ok ds => (match ds[n - (k + 1)]? with
      | some d => if ds.length = n then (match asg false tg [d] (setP δ p (.lst .own (ds.set (n - (k + 1)) .any))) with
          | .ok δ1 => (match ownAt δ1 q with
            | .ok es => if es.length < LIM then fappL tg p q j n k (setP δ1 q (.lst .own (es ++ [.int j]))) else .bad
            | _ => .bad)
          | _ => .bad) else .bad
      | none => .bad)
    | _ => .bad
/-- for i, j in enumerate(P): j.append(i) (k turns of n are left) -/
def fappEL (i j : Nat) (p : Pl) (n : Nat) : Nat → List D → O
  | 0, δ => match ownAt δ p with
    | .ok ds => if ds.length = n then .next δ else .bad
    | _ => .bad
  | k + 1, δ => match ownAt δ p with
    | .ok ds => if ds.length = n then (match ds.getD (n - (k + 1)) .any with
      | .lst .own es => if es.length < LIM then fappEL i j p n k (((setP δ p (.lst .own (ds.set (n - (k + 1)) (.lst .own (es ++ [.int ((n - (k + 1) : Nat) : Int)]))))).set i .any).set j .any) else .bad
      | _ => .bad) else .bad
    | _ => .bad
/-- p[j] = v -/
def sw2 (Φ : Fn) (γ : Gn) (p : Pl) (j : M) (v : D) (δ : List D) : R (List D) := match ownAt δ p with
  | .ok ds => (match ev Φ γ j (D.frzs δ) with
    | .ok (.int k) => (match ixN ds.length k with
      | some b => .ok (setP δ p (.lst .own (ds.set b v)))
      | none => .bad)
    | _ => .bad)
  | _ => .bad
/-- what needs no address -/
def D.atm : D → Bool
  | .int _ => true
  | .str _ => true
  | _ => false
/-- p[i], p[j] = u, v -/
def sw1 (Φ : Fn) (γ : Gn) (p : Pl) (i j : M) (d : D) (δ : List D) : R (List D) := match d with
  | .tup [u, v] => if u.atm && v.atm then (ownAt δ p >>= fun ds => ev Φ γ i (D.frzs δ) >>= fun k => intOf k >>= fun k => (match ixN ds.length k with
    | some a => sw2 Φ γ p j v (setP δ p (.lst .own (ds.set a u)))
    | none => .bad)) else .bad
  | _ => .bad
/-- the slots after a run in which U were frozen and A were set -/
def scopeD (U A : List Nat) : Nat → List D → List D → List D
  | k, d :: ds, e :: es => (if k ∈ U then d else if k ∉ A ∧ d.bare = true then d else if e.pur = true then e else .any) :: scopeD U A (k + 1) ds es
  | _, _, _ => []
def scopeO (U A : List Nat) (δ : List D) : O → O
  | .next δ' => .next (scopeD U A 0 δ δ')
  | .exc c δ' => .exc c (scopeD U A 0 δ δ')
  | o => o
/-- as evX, of a comprehension out of which an exception may come -/
def evCX (Φ : Fn) (γ : Gn) (m : M) (δ : List D) : R (D × List D) := evC Φ γ m (D.frzs δ) >>= fun d => if d.pur then .ok (d, δ) else .ok (d, frzU m.uses 0 δ)
def exec (Φ : Fn) (γ : Gn) (fu : Nat) : S → List D → O
  | .nil, δ => .next δ
  | .cons s ss, δ => (exec Φ γ fu s δ).thn (exec Φ γ fu ss)
  | .pass, δ => .next δ
  | .set tg e, δ => .of δ (do
      let (d, δ1) ← evT Φ γ e δ
      asg false tg [d] δ1)
  | .setC i e, δ => .of δ (do
      let (d, δ1) ← evX Φ γ e δ
      asg false (.nm i) [d] δ1)
  | .setCK i e, δ => .of δ (do
      let (d, δ1) ← evK Φ γ e δ
      asg false (.nm i) [d] δ1)
  | .setCO i e, δ => .of δ (do
      let (d, δ1) ← evO Φ γ e δ
      asg false (.nm i) [d] δ1)
  | .par i j a b, δ => .of δ (do
      let (x, δ1) ← evT Φ γ a δ
      let (y, δ2) ← evT Φ γ b δ1
      .ok ((δ2.set i x).set j y))
  | .app p e, δ => .of δ (do
      let _ ← ownAt δ p
      let (d, δ1) ← evT Φ γ e δ
      let ds ← ownAt δ1 p
      if ds.length < LIM then .ok (setP δ1 p (.lst .own (ds ++ [d]))) else .bad)
  | .ins p i e, δ => .of δ (do
      let _ ← ownAt δ p
      let k ← ev Φ γ i (D.frzs δ)
      let k ← intOf k
      let (d, δ1) ← evT Φ γ e δ
      let ds ← ownAt δ1 p
      if ds.length < LIM ∧ 0 ≤ k ∧ k < 2 ^ 63 then .ok (setP δ1 p (.lst .own (ds.take k.toNat ++ [d] ++ ds.drop k.toNat))) else .bad)
  | .clr p, δ => .of δ (do
      let _ ← ownAt δ p
      .ok (setP δ p (.lst .own [])))
  | .pop p, δ => .of δ (do
      let ds ← ownAt δ p
      if ds = [] then .bad else .ok (setP δ p (.lst .own ds.dropLast)))
  | .setPop i p, δ => .of δ (do
      let ds ← ownAt δ p
      match ds.getLast? with
      | some d => .ok ((setP δ p (.lst .own ds.dropLast)).set i d)
      | none => .bad)
  | .setIx p i e, δ => .of δ (do
      let (d, δ1) ← evT Φ γ e δ
      match getP δ1 p with
      | .dct .own c ks vs => do
        let k ← ev Φ γ i (D.frzs δ1)
        if keyOk c k && d.flat && decide (ks.length < LIM) then .ok (setP δ1 p (.dct .own c (dput ks vs k d).1 (dput ks vs k d).2)) else .bad
      | _ => do
        let ds ← ownAt δ1 p
        let k ← ev Φ γ i (D.frzs δ1)
        let k ← intOf k
        match ixN ds.length k with
        | some j => .ok (setP δ1 p (.lst .own (ds.set j d)))
        | none => .bad)
  | .popAt p i, δ => .of δ (do
      let ds ← ownAt δ p
      let k ← ev Φ γ i (D.frzs δ)
      let k ← intOf k
      match ixN ds.length k with
      | some j => if okR k then .ok (setP δ p (.lst .own (ds.eraseIdx j))) else .bad
      | none => .bad)
  | .tryk i e b, δ => match exec Φ γ fu b δ with
    | .exc c δ' => if c ∈ exNames then .next ((δ'.set i (.exc c)).set e .any) else .bad
    | o => o
  | .aug i e, δ => .of δ (do
      let x ← intOf (getD' δ i)
      let y ← ev Φ γ e (D.frzs δ)
      let y ← intOf y
      .ok (δ.set i (.int (x + y))))
  | .ife c a b, δ => O.ifR δ (ev Φ γ c (D.frzs δ)) (exec Φ γ fu a δ) (exec Φ γ fu b δ)
  | .whl c b, δ => loopW (fun δ => ev Φ γ c (D.frzs δ)) (exec Φ γ fu b) fu δ
  | .fr tg iter b, δ => match evI Φ γ iter δ with
    | .ok (args, δ1) => (match itJ iter args with
      | .ok items => loopF (fun d δ => (O.of δ (asg false tg [d] δ)).thn (exec Φ γ fu b)) items δ1
      | _ => .bad)
    | .exc c => .exc c δ
    | .bad => .bad
  | .ret e, δ => match evT Φ γ e δ with
    | .ok (d, _) => .ret d
    | .exc c => .exc c δ
    | .bad => .bad
  | .retN, _ => .ret .non
  | .setCX i e, δ => .of δ (do
      let (d, δ1) ← evCX Φ γ e δ
      asg false (.nm i) [d] δ1)
  | .retCX e, δ => match evCX Φ γ e δ with
    | .ok (d, _) => .ret d
    | .exc c => .exc c δ
    | .bad => .bad
  | .drop e, δ => .of δ (do
      let (_, δ1) ← evT Φ γ e δ
      .ok δ1)
  | .rais c, δ => .exc c δ
  | .fclr tg p q, δ => match ownAt δ p with
    | .ok ds => fclrL tg p q ds.length ds.length δ
    | _ => .bad
  | .frO i tg b, δ => match getD' δ i with
    | .lst .own ds => (match loopF (fun d δ => (O.of δ (asg false tg [d] δ)).thn (exec Φ γ fu b)) ds (δ.set i .any) with
      | .next δ' => .next (δ'.set i (.lst .own (anys ds.length)))
      | o => o)
    | _ => .bad
  | .scope U s, δ => scopeO U s.sets δ (exec Φ γ fu s (frzU U 0 δ))
  | .fappE i j p, δ => match ownAt δ p with
    | .ok ds => fappEL i j p ds.length ds.length δ
    | _ => .bad
  | .swp2 p i j e, δ => .of δ (evT Φ γ e δ >>= fun y => sw1 Φ γ p i j y.1 y.2)
  | .fapp tg p q i, δ => match ownAt δ p with
    | .ok ds => fappL tg p q i ds.length ds.length δ
    | _ => .bad

/-! ### the state -/
def PlV (H : Hp) (σ : St) : Pl → V → Prop
  | .nm i, v => σ[i]? = some (some v)
  | .ix p k, v => ∃ b us, PlV H σ p (.ref b) ∧ (H b = some (.lst us) ∨ H b = some (.tup us)) ∧ us[k]? = some v
theorem plV_one {H H' : Hp} {σ : St} (h : Same H H') : ∀ {p : Pl} {v w : V}, PlV H σ p v → PlV H' σ p w → v = w
  | .nm i, v, w, a, b => by
    have a' : σ[i]? = some (some v) := a
    have b' : σ[i]? = some (some w) := b
    rw [a'] at b'
    cases b'
    rfl
  | .ix p k, v, w, ⟨b, us, a1, a2, a3⟩, ⟨c, ws, b1, b2, b3⟩ => by
    have e := plV_one h a1 b1
    cases e
    have : us = ws := by
      rcases a2 with a2 | a2 <;> rcases b2 with b2 | b2 <;> (rw [h _ _ a2] at b2; cases b2) <;> rfl
    subst this
    rw [a3] at b3
    cases b3
    rfl

/-- a run's base: what was frozen ahead, and slots that keep their values -/
structure Bs where
  f : Hp
  pn : Nat → Option V
def SlOk (FB : Bs) (n : Nat) (σ : St) : Prop := σ.length = n ∧ ∀ i v, FB.pn i = some v → σ[i]? = some (some v)
theorem SlOk.set {FB : Bs} {n : Nat} {σ : St} (h : SlOk FB n σ) {i : Nat} (hp : FB.pn i = none) (x : Option V) : SlOk FB n (σ.set i x) :=
  ⟨by rw [List.length_set]; exact h.1, fun j v hj => by
    have : i ≠ j := fun e => by rw [e, hj] at hp; cases hp
    rw [List.getElem?_set_ne this]
    exact h.2 j v hj⟩
structure Rs (K : PySem.W.Frag) (n : Nat) (FB : Bs) (HB F H : Hp) (σ : St) (δ : List D) (ws : List V) (T : List D) : Prop where
  ex : Ext FB.f HB F H
  sl : SlOk FB n σ
  dl : δ.length = n
  rep : ∃ vs S, vs.length = n ∧ (∀ i, i < n → getD' δ i = .any ∨ σ[i]? = some (vs[i]?)) ∧ Reps K F H (δ ++ T) (vs ++ ws) S ∧ Fresh HB S

section
variable {K : PySem.W.Frag} {n : Nat} {FB : Bs} {HB F H : Hp} {σ : St} {δ : List D} {ws : List V} {T : List D}
theorem split_len {α : Type} {as bs cs ds : List α} (h : as ++ bs = cs ++ ds) (l : as.length = cs.length) : as = cs ∧ bs = ds := List.append_inj h l
/-- slots apart, temporaries apart -/
theorem Rs.apart (R : Rs K n FB HB F H σ δ ws T) : ∃ vs S U, vs.length = n ∧ (∀ i, i < n → getD' δ i = .any ∨ σ[i]? = some (vs[i]?)) ∧ Reps K F H δ vs S ∧ Reps K F H T ws U ∧ Fresh HB S ∧ Fresh HB U ∧ ∀ a, a ∈ S → a ∉ U := by
  obtain ⟨vs, S, hl, hv, r, f⟩ := R.rep
  obtain ⟨vs', us, S1, U, e, rfl, r1, r2, ap⟩ := reps_split r
  obtain ⟨rfl, rfl⟩ := split_len e (by rw [hl, reps_len r1, R.dl])
  exact ⟨vs, S1, U, hl, hv, r1, r2, fun a ha => f a (List.mem_append_left _ ha), fun a ha => f a (List.mem_append_right _ ha), ap⟩
theorem Rs.join (ex : Ext FB.f HB F H) (sl : SlOk FB n σ) (dl : δ.length = n) {vs : List V} {S U : List Addr} (hl : vs.length = n) (hv : ∀ i, i < n → getD' δ i = .any ∨ σ[i]? = some (vs[i]?)) (r1 : Reps K F H δ vs S) (r2 : Reps K F H T ws U)
    (f1 : Fresh HB S) (f2 : Fresh HB U) (ap : ∀ a, a ∈ S → a ∉ U) : Rs K n FB HB F H σ δ ws T :=
  ⟨ex, sl, dl, vs, S ++ U, hl, hv, reps_app r1 r2 ap, fun a ha => (List.mem_append.mp ha).elim (f1 a) (f2 a)⟩

theorem reps_frzU {U : List Nat} : ∀ {δ : List D} {vs : List V} {S : List Addr} (k : Nat), Reps K F H δ vs S → ∃ SU SR : List Addr, (∀ a, a ∈ S ↔ a ∈ SU ∨ a ∈ SR) ∧ (∀ a, a ∈ SU → a ∉ SR) ∧
    ∀ F', Same F F' → (∀ a, a ∈ SU → F' a = H a) → (∀ a, a ∈ SR → F' a = none) → Reps K F' H (frzU U k δ) vs SR
  | [], vs, S, k, h => by
    simp only [Reps] at h
    obtain ⟨rfl, rfl⟩ := h
    exact ⟨[], [], fun a => by simp, (fun a ha => nomatch ha), fun F' _ _ _ => by simp [frzU, Reps]⟩
  | d :: ds, vs, S, k, h => by
    obtain ⟨v, vr, S1, S2, rfl, h1, h2, h3, rfl⟩ := reps_uncons h
    obtain ⟨SU, SR, m, ap, g⟩ := reps_frzU (k + 1) h2
    by_cases hk : k ∈ U
    · refine ⟨S1 ++ SU, SR, fun a => ?_, fun a ha hb => ?_, fun F' hF h4 h5 => ?_⟩
      · rw [List.mem_append, m, List.mem_append, or_assoc]
      · rcases List.mem_append.mp ha with z | z
        · exact h3 a z ((m a).mpr (.inr hb))
        · exact ap a z hb
      · simp only [frzU, if_pos hk]
        have r1 := rep_frz hF d h1 fun a ha => h4 a (List.mem_append_left _ ha)
        have r2 := g F' hF (fun a ha => h4 a (List.mem_append_right _ ha)) h5
        exact reps_cons r1 r2 (fun a ha => nomatch ha)
    · refine ⟨SU, S1 ++ SR, fun a => ?_, fun a ha hb => ?_, fun F' hF h4 h5 => ?_⟩
      · rw [List.mem_append, m, List.mem_append]
        constructor
        · rintro (z | z | z)
          · exact .inr (.inl z)
          · exact .inl z
          · exact .inr (.inr z)
        · rintro (z | z | z)
          · exact .inr (.inl z)
          · exact .inl z
          · exact .inr (.inr z)
      · rcases List.mem_append.mp hb with z | z
        · exact h3 a z ((m a).mpr (.inl ha))
        · exact ap a ha z
      · simp only [frzU, if_neg hk]
        have r1 := rep_mono hF (.refl H) d h1 fun a ha => h5 a (List.mem_append_left _ ha)
        have r2 := g F' hF h4 fun a ha => h5 a (List.mem_append_right _ ha)
        exact reps_cons r1 r2 fun a ha hb => h3 a ha ((m a).mpr (.inr hb))
theorem frzU_len {U : List Nat} : ∀ (k : Nat) (δ : List D), (frzU U k δ).length = δ.length
  | _, [] => rfl
  | k, d :: ds => by simp [frzU, frzU_len]
theorem frzU_get {U : List Nat} : ∀ {k : Nat} {δ : List D} {i : Nat}, (frzU U k δ)[i]? = δ[i]?.map fun d => if k + i ∈ U then d.frz else d
  | k, [], i => by simp [frzU]
  | k, d :: ds, 0 => by simp [frzU]
  | k, d :: ds, i + 1 => by
    simp only [frzU, List.getElem?_cons_succ]
    rw [frzU_get, show k + 1 + i = k + (i + 1) by omega]
theorem getD_frzs (i : Nat) : getD' (D.frzs δ) i = (getD' δ i).frz := by
  unfold getD'
  rw [D.frzs_eq, List.getD_eq_getElem?_getD, List.getD_eq_getElem?_getD, List.getElem?_map]
  cases δ[i]? <;> simp [D.frz]
theorem getD_frzU {U : List Nat} (i : Nat) : getD' (frzU U 0 δ) i = if i ∈ U then (getD' δ i).frz else getD' δ i := by
  unfold getD'
  rw [List.getD_eq_getElem?_getD, List.getD_eq_getElem?_getD, frzU_get]
  cases δ[i]? <;> simp [D.frz]
theorem frz_any {d : D} : d.frz = .any ↔ d = .any := by cases d <;> simp [D.frz]

/-- what a statement's expression sees: its slots frozen; and how one goes on from its answer -/
theorem Rs.view (R : Rs K n FB HB F H σ δ ws T) (U : List Nat) : ∃ Fv, Ext FB.f HB Fv H ∧ EnvF K n U Fv H σ (D.frzs δ) ∧
    (∀ F' H' d v S, Ext Fv H F' H' → Rep K F' H' d v S → Fresh H S → d.pur = true → Rs K n FB HB F H' σ δ (v :: ws) (d :: T)) ∧
    (∀ F' H' d v S, Ext Fv H F' H' → Rep K F' H' d v S → Fresh H S → Rs K n FB HB F' H' σ (frzU U 0 δ) (v :: ws) (d :: T)) ∧
    (∀ F' H', Ext Fv H F' H' → Rs K n FB HB F H' σ δ ws T) := by
  obtain ⟨vs, S, V1, hl, hv, r1, r2, f1, f2, ap⟩ := R.apart
  obtain ⟨SU, SR, m, ap2, g⟩ := reps_frzU (U := U) 0 r1
  have hSU : ∀ a, a ∈ SU → F a = none := fun a ha => (reps_mem δ r1 a ((m a).mpr (.inl ha))).2
  have hSR : ∀ a, a ∈ SR → F a = none := fun a ha => (reps_mem δ r1 a ((m a).mpr (.inr ha))).2
  have hV : ∀ a, a ∈ V1 → F a = none := fun a ha => (reps_mem T r2 a ha).2
  have fSU : Fresh HB SU := fun a ha => f1 a ((m a).mpr (.inl ha))
  have fSR : Fresh HB SR := fun a ha => f1 a ((m a).mpr (.inr ha))
  have exv := fz_ext R.ex hSU fSU
  have sv := fz_same R.ex.in' hSU
  have out : ∀ a, a ∉ SU → fz F H SU a = F a := fun a ha => if_neg ha
  have rv : Reps K (fz F H SU) H (frzU U 0 δ) vs SR := g _ sv (fun a ha => fz_at ha) fun a ha => (out a fun z => ap2 a z ha).trans (hSR a ha)
  have rt : Reps K (fz F H SU) H T ws V1 := reps_mono sv (.refl H) T r2 fun a ha => (out a fun z => ap a ((m a).mpr (.inl z)) ha).trans (hV a ha)
  refine ⟨fz F H SU, exv, ⟨exv.in', R.sl.1, by rw [frzs_len, R.dl], fun i hi => ?_⟩, fun F' H' d v S' e r f p => ?_, fun F' H' d v S' e r f => ?_, fun F' H' e => ?_⟩
  · rw [getD_frzs]
    by_cases hn : i < n
    · rcases hv i hn with z | z
      · rw [z]; exact .inl (by simp [D.frz])
      · right
        have hi' : (frzU U 0 δ)[i]? = some (getD' δ i).frz := by
          rw [frzU_get, Nat.zero_add]
          unfold getD'
          rw [List.getD_eq_getElem?_getD, List.getElem?_eq_getElem (by rw [R.dl]; exact hn)]
          simp [hi]
        obtain ⟨v, S', k1, k2, k3⟩ := reps_get rv hi'
        rw [k1] at z
        exact ⟨v, z, by rw [← rep_nil _ k2]; exact k2⟩
    · left
      unfold getD'
      rw [List.getD_eq_getElem?_getD, List.getElem?_eq_none (by rw [R.dl]; omega)]
      simp [D.frz]
  · have f' : Fresh HB S' := f.mono R.ex.h
    have hS' : ∀ a, a ∈ S' → F a = none := fun a ha => R.ex.in'.free (f a ha)
    have r' : Rep K F H' d v S' := rep_pur d p r hS'
    have eH : Ext F H F H' := ⟨.refl _, e.h, R.ex.in'.trans e.h, fun _ _ z => z⟩
    refine .join (R.ex.trans eH) R.sl R.dl hl hv (reps_ext eH r1) (reps_cons r' (reps_ext eH r2) ?_) f1 (fun a ha => (List.mem_append.mp ha).elim (f' a) (f2 a)) ?_
    · intro a ha hb
      obtain ⟨⟨_, z⟩, _⟩ := reps_mem T r2 a hb
      rw [f a ha] at z
      cases z
    · intro a ha hb
      rcases List.mem_append.mp hb with z | z
      · exact freshs_apart r1 f a ha z
      · exact ap a ha z
  · have f' : Fresh HB S' := f.mono R.ex.h
    refine .join (exv.trans e) R.sl (by rw [frzU_len, R.dl]) hl (fun i hi => ?_) (reps_ext e rv) (reps_cons r (reps_ext e rt) ?_) fSR (fun a ha => (List.mem_append.mp ha).elim (f' a) (f2 a)) ?_
    · rw [getD_frzU]
      rcases hv i hi with z | z
      · rw [z]; left; split <;> simp [D.frz]
      · exact .inr z
    · intro a ha hb
      obtain ⟨⟨_, z⟩, _⟩ := reps_mem T r2 a hb
      rw [f a ha] at z
      cases z
    · intro a ha hb
      rcases List.mem_append.mp hb with z | z
      · exact freshs_apart rv f a ha z
      · exact ap a ((m a).mpr (.inr ha)) z
  · have eH : Ext F H F H' := ⟨.refl _, e.h, R.ex.in'.trans e.h, fun _ _ z => z⟩
    exact .join (R.ex.trans eH) R.sl R.dl hl hv (reps_ext eH r1) (reps_ext eH r2) f1 f2 ap
/-- less is frozen -/
noncomputable def les (F : Hp) (A : List Addr) : Hp := fun a => if a ∈ A then none else F a
theorem les_out {F : Hp} {A : List Addr} {a : Addr} (h : a ∉ A) : les F A a = F a := if_neg h
theorem les_in {F : Hp} {A : List Addr} : Same (les F A) F := fun a o e => by
  by_cases h : a ∈ A
  · rw [show les F A a = none from if_pos h] at e; cases e
  · rw [les_out h] at e; exact e
mutual
theorem rep_les {F H : Hp} {A : List Addr} : ∀ (d : D) {v : V} {S : List Addr}, Rep K F H d v S → d.plain = true → (∀ es us a, es ∈ d.ffs → F a = some (.lst us) → (∃ S, Reps K F H es us S) → a ∉ A) → Rep K (les F A) H d v S
  | .any, _, _, _, p, _ => by simp [D.plain] at p
  | .non, _, _, h, _, _ => by simpa only [Rep] using h
  | .bl _, _, _, h, _, _ => by simpa only [Rep] using h
  | .int _, _, _, h, _, _ => by simpa only [Rep] using h
  | .str _, _, _, h, _, _ => by simpa only [Rep] using h
  | .exc _, _, _, h, _, _ => by simpa only [Rep] using h
  | .tup ds, _, _, h, p, q => by
    simp only [Rep] at h ⊢
    obtain ⟨a, vs, h1, h2, h3⟩ := h
    exact ⟨a, vs, h1, h2, reps_les ds h3 (by simpa [D.plain] using p) (fun es us b he => q es us b (by simpa [D.ffs] using he))⟩
  | .lst .own ds, _, _, h, p, q => by
    simp only [Rep] at h ⊢
    obtain ⟨a, vs, S', h1, h2, h3, h4, h5⟩ := h
    exact ⟨a, vs, S', h1, h2, (les_in (A := A)).free h3, reps_les ds h4 (by simpa [D.plain] using p) (fun es us b he => q es us b (by simpa [D.ffs] using he)), h5⟩
  | .lst .frz ds, _, _, h, p, q => by
    simp only [Rep] at h ⊢
    obtain ⟨a, vs, h1, h2, h3, h4⟩ := h
    have na : a ∉ A := q ds vs a (by simp [D.ffs]) h2 ⟨_, h3⟩
    exact ⟨a, vs, h1, (les_out na).trans h2, reps_les ds h3 (by simpa [D.plain] using p) (fun es us b he => q es us b (by simp [D.ffs, he])), h4⟩
  | .lst .ro ds, _, _, _, p, _ => by simp [D.plain] at p
  | .dct _ _ _ _, _, _, _, p, _ => by simp [D.plain] at p
theorem reps_les {F H : Hp} {A : List Addr} : ∀ (ds : List D) {vs : List V} {S : List Addr}, Reps K F H ds vs S → D.plains ds = true → (∀ es us a, es ∈ D.ffss ds → F a = some (.lst us) → (∃ S, Reps K F H es us S) → a ∉ A) → Reps K (les F A) H ds vs S
  | [], _, _, h, _, _ => by simpa only [Reps] using h
  | d :: ds, _, _, h, p, q => by
    simp only [Reps] at h ⊢
    obtain ⟨v, vr, S1, S2, h1, h2, h3, h4⟩ := h
    simp only [D.plains, Bool.and_eq_true] at p
    exact ⟨v, vr, S1, S2, h1, rep_les d h2 p.1 (fun es us b he => q es us b (by simp [D.ffss, he])), reps_les ds h3 p.2 (fun es us b he => q es us b (by simp [D.ffss, he])), h4⟩
end
mutual
theorem rep_bare {F H : Hp} : ∀ (d : D) {v : V} {S : List Addr}, Rep K F H d v S → d.bare = true → S = []
  | .any, _, _, h, _ => by simpa only [Rep] using h
  | .non, _, _, h, _ => by simp only [Rep] at h; exact h.2
  | .bl _, _, _, h, _ => by simp only [Rep] at h; exact h.2
  | .int _, _, _, h, _ => by simp only [Rep] at h; exact h.2
  | .str _, _, _, h, _ => by simp only [Rep] at h; exact h.2
  | .exc _, _, _, h, _ => by simp only [Rep] at h; obtain ⟨_, _, _, h⟩ := h; exact h
  | .tup ds, _, _, h, p => by
    simp only [Rep] at h
    obtain ⟨a, vs, h1, h2, h3⟩ := h
    exact reps_bare ds h3 (by simpa [D.bare] using p)
  | .lst .own ds, _, _, _, p => by simp [D.bare] at p
  | .lst .frz ds, _, _, h, _ => by simp only [Rep] at h; obtain ⟨_, _, _, _, _, h⟩ := h; exact h
  | .lst .ro ds, _, _, h, _ => by simp only [Rep] at h; obtain ⟨_, _, _, _, _, h⟩ := h; exact h
  | .dct .own _ _ _, _, _, _, p => by simp [D.bare] at p
  | .dct .frz _ _ _, _, _, h, _ => by simp only [Rep] at h; obtain ⟨_, _, _, _, _, _, _, _, h⟩ := h; exact h
  | .dct .ro _ _ _, _, _, h, _ => by simp only [Rep] at h
theorem reps_bare {F H : Hp} : ∀ (ds : List D) {vs : List V} {S : List Addr}, Reps K F H ds vs S → D.bares ds = true → S = []
  | [], _, _, h, _ => by simp only [Reps] at h; exact h.2
  | d :: ds, _, _, h, p => by
    simp only [Reps] at h
    obtain ⟨v, vr, S1, S2, rfl, h2, h3, h4, rfl⟩ := h
    simp only [D.bares, Bool.and_eq_true] at p
    rw [rep_bare d h2 p.1, reps_bare ds h3 p.2] <;> rfl
end
theorem disL_no {F1 H1 F2 H2 : Hp} {es ds : List D} {us : List V} {S1 S2 : List Addr} (h : disL es ds = true) (r1 : Reps K F1 H1 es us S1) (r2 : Reps K F2 H2 ds us S2) : False := by
  unfold disL at h
  rw [Bool.or_eq_true, decide_eq_true_eq] at h
  rcases h with h | h
  · exact h ((reps_len r1).symm.trans (reps_len r2))
  · split at h
    · obtain ⟨v, vr, _, _, rfl, q1, _⟩ := reps_uncons r1
      obtain ⟨w, wr, _, _, e, q2, _⟩ := reps_uncons r2
      cases e
      simp only [Rep] at q1 q2
      obtain ⟨rfl, _⟩ := q1
      obtain ⟨_, _, e, _⟩ := q2
      cases e
    · obtain ⟨v, vr, _, _, rfl, q1, _⟩ := reps_uncons r1
      obtain ⟨w, wr, _, _, e, q2, _⟩ := reps_uncons r2
      cases e
      simp only [Rep] at q1 q2
      obtain ⟨rfl, _⟩ := q2
      obtain ⟨_, _, e, _⟩ := q1
      cases e
    · obtain ⟨v, vr, _, _, rfl, q1, _⟩ := reps_uncons r1
      obtain ⟨w, wr, _, _, e, q2, _⟩ := reps_uncons r2
      cases e
      simp only [Rep] at q1 q2
      obtain ⟨rfl, _⟩ := q1
      obtain ⟨_, _, e, _⟩ := q2
      cases e
    · cases h
/-- of slots that are seen frozen (U), those of U' stay so -/
theorem reps_frz3 {U U' : List Nat} (sub : ∀ i, i ∈ U' → i ∈ U) : ∀ {δ : List D} {vs : List V} {S : List Addr} (k : Nat), Reps K F H δ vs S → ∃ SU SM SR : List Addr, (∀ a, a ∈ S ↔ a ∈ SU ∨ a ∈ SM ∨ a ∈ SR) ∧
    (∀ a, a ∈ SU → a ∉ SM ∧ a ∉ SR) ∧ (∀ a, a ∈ SM → a ∉ SR) ∧
    (∀ F', Same F F' → (∀ a, a ∈ SU → F' a = H a) → (∀ a, a ∈ SM → F' a = H a) → (∀ a, a ∈ SR → F' a = none) → Reps K F' H (frzU U k δ) vs SR) ∧
    (∀ F', Same F F' → (∀ a, a ∈ SU → F' a = H a) → (∀ a, a ∈ SM → F' a = none) → (∀ a, a ∈ SR → F' a = none) → ∃ SX, Reps K F' H (frzU U' k δ) vs SX ∧ ∀ a, a ∈ SX → a ∈ SM ∨ a ∈ SR) ∧
    (∀ a, a ∈ SM → ∃ i d v Si, δ[i]? = some d ∧ k + i ∈ U ∧ k + i ∉ U' ∧ Rep K F H d v Si ∧ a ∈ Si)
  | [], vs, S, k, h => by
    simp only [Reps] at h
    obtain ⟨rfl, rfl⟩ := h
    exact ⟨[], [], [], fun a => by simp, (fun a ha => nomatch ha), (fun a ha => nomatch ha), fun F' _ _ _ _ => by simp [frzU, Reps], fun F' _ _ _ _ => ⟨[], by simp [frzU, Reps], fun a ha => nomatch ha⟩, fun a ha => nomatch ha⟩
  | d :: ds, vs, S, k, h => by
    obtain ⟨v, vr, S1, S2, rfl, h1, h2, h3, rfl⟩ := reps_uncons h
    obtain ⟨SU, SM, SR, m, ap, ap', g, g', w⟩ := reps_frz3 sub (k + 1) h2
    have in2 : ∀ a, a ∈ SU ∨ a ∈ SM ∨ a ∈ SR → a ∈ S2 := fun a => (m a).mpr
    have w' : ∀ a, a ∈ SM → ∃ i d' v Si, (d :: ds)[i]? = some d' ∧ k + i ∈ U ∧ k + i ∉ U' ∧ Rep K F H d' v Si ∧ a ∈ Si := fun a ha => by
      obtain ⟨i, d', v', Si, q1, q2, q3, q4⟩ := w a ha
      exact ⟨i + 1, d', v', Si, by simpa using q1, by rw [show k + (i + 1) = k + 1 + i by omega]; exact q2, by rw [show k + (i + 1) = k + 1 + i by omega]; exact q3, q4⟩
    by_cases hk' : k ∈ U'
    · have hk := sub k hk'
      refine ⟨S1 ++ SU, SM, SR, fun a => by rw [List.mem_append, m, List.mem_append, or_assoc], fun a ha => ?_, ap', fun F' hF q1 q2 q3 => ?_, fun F' hF q1 q2 q3 => ?_, w'⟩
      · rcases List.mem_append.mp ha with z | z
        · exact ⟨fun y => h3 a z (in2 a (.inr (.inl y))), fun y => h3 a z (in2 a (.inr (.inr y)))⟩
        · exact ap a z
      · simp only [frzU, if_pos hk]
        exact reps_cons (rep_frz hF d h1 fun a ha => q1 a (List.mem_append_left _ ha)) (g F' hF (fun a ha => q1 a (List.mem_append_right _ ha)) q2 q3) (fun a ha => nomatch ha)
      · simp only [frzU, if_pos hk']
        obtain ⟨SX, r, hx⟩ := g' F' hF (fun a ha => q1 a (List.mem_append_right _ ha)) q2 q3
        exact ⟨_, reps_cons (rep_frz hF d h1 fun a ha => q1 a (List.mem_append_left _ ha)) r (fun a ha => nomatch ha), fun a ha => hx a (by simpa using ha)⟩
    · by_cases hk : k ∈ U
      · refine ⟨SU, S1 ++ SM, SR, fun a => ?_, fun a ha => ⟨fun y => ?_, (ap a ha).2⟩, fun a ha y => ?_, fun F' hF q1 q2 q3 => ?_, fun F' hF q1 q2 q3 => ?_, fun a ha => ?_⟩
        · rw [List.mem_append, m, List.mem_append]
          constructor
          · rintro (z | z | z | z)
            · exact .inr (.inl (.inl z))
            · exact .inl z
            · exact .inr (.inl (.inr z))
            · exact .inr (.inr z)
          · rintro (z | (z | z) | z)
            · exact .inr (.inl z)
            · exact .inl z
            · exact .inr (.inr (.inl z))
            · exact .inr (.inr (.inr z))
        · rcases List.mem_append.mp y with z | z
          · exact h3 a z (in2 a (.inl ha))
          · exact (ap a ha).1 z
        · rcases List.mem_append.mp ha with z | z
          · exact h3 a z (in2 a (.inr (.inr y)))
          · exact ap' a z y
        · simp only [frzU, if_pos hk]
          exact reps_cons (rep_frz hF d h1 fun a ha => q2 a (List.mem_append_left _ ha)) (g F' hF q1 (fun a ha => q2 a (List.mem_append_right _ ha)) q3) (fun a ha => nomatch ha)
        · simp only [frzU, if_neg hk']
          obtain ⟨SX, r, hx⟩ := g' F' hF q1 (fun a ha => q2 a (List.mem_append_right _ ha)) q3
          refine ⟨_, reps_cons (rep_mono hF (.refl H) d h1 fun a ha => q2 a (List.mem_append_left _ ha)) r (fun a ha hb => h3 a ha (in2 a (.inr (hx a hb)))), fun a ha => ?_⟩
          rcases List.mem_append.mp ha with z | z
          · exact .inl (List.mem_append_left _ z)
          · exact (hx a z).imp (List.mem_append_right _) id
        · rcases List.mem_append.mp ha with z | z
          · exact ⟨0, d, v, S1, rfl, hk, hk', h1, z⟩
          · exact w' a z
      · refine ⟨SU, SM, S1 ++ SR, fun a => ?_, fun a ha => ⟨(ap a ha).1, fun y => ?_⟩, fun a ha y => ?_, fun F' hF q1 q2 q3 => ?_, fun F' hF q1 q2 q3 => ?_, w'⟩
        · rw [List.mem_append, m, List.mem_append]
          constructor
          · rintro (z | z | z | z)
            · exact .inr (.inr (.inl z))
            · exact .inl z
            · exact .inr (.inl z)
            · exact .inr (.inr (.inr z))
          · rintro (z | z | z | z)
            · exact .inr (.inl z)
            · exact .inr (.inr (.inl z))
            · exact .inl z
            · exact .inr (.inr (.inr z))
        · rcases List.mem_append.mp y with z | z
          · exact h3 a z (in2 a (.inl ha))
          · exact (ap a ha).2 z
        · rcases List.mem_append.mp y with z | z
          · exact h3 a z (in2 a (.inr (.inl ha)))
          · exact ap' a ha z
        · simp only [frzU, if_neg hk]
          exact reps_cons (rep_mono hF (.refl H) d h1 fun a ha => q3 a (List.mem_append_left _ ha)) (g F' hF q1 q2 fun a ha => q3 a (List.mem_append_right _ ha)) fun a ha hb => h3 a ha (in2 a (.inr (.inr hb)))
        · simp only [frzU, if_neg hk']
          obtain ⟨SX, r, hx⟩ := g' F' hF q1 q2 (fun a ha => q3 a (List.mem_append_right _ ha))
          refine ⟨_, reps_cons (rep_mono hF (.refl H) d h1 fun a ha => q3 a (List.mem_append_left _ ha)) r (fun a ha hb => h3 a ha (in2 a (.inr (hx a hb)))), fun a ha => ?_⟩
          rcases List.mem_append.mp ha with z | z
          · exact .inr (List.mem_append_left _ z)
          · exact (hx a z).imp id (List.mem_append_right _)
theorem Rs.view2 (R : Rs K n FB HB F H σ δ ws T) (U U' : List Nat) (sub : ∀ i, i ∈ U' → i ∈ U) : ∃ Fv, Ext FB.f HB Fv H ∧ EnvF K n U Fv H σ (D.frzs δ) ∧
    (∀ F' H' d v S, Ext Fv H F' H' → Rep K F' H' d v S → Fresh H S → (∀ i, i ∈ U → i ∉ U' → awayD d (getD' δ i) = true) → ∃ F'', Rs K n FB HB F'' H' σ (frzU U' 0 δ) (v :: ws) (d :: T)) := by
  obtain ⟨vs, S, V1, hl, hv, r1, r2, f1, f2, ap⟩ := R.apart
  obtain ⟨SU, SM, SR, m, a1, a2, g, g', w⟩ := reps_frz3 sub 0 r1
  have inS : ∀ a, a ∈ SU ∨ a ∈ SM ∨ a ∈ SR → a ∈ S := fun a => (m a).mpr
  have hS : ∀ a, a ∈ S → F a = none := fun a ha => (reps_mem δ r1 a ha).2
  have oS : ∀ a, a ∈ S → ∃ o, H a = some o := fun a ha => (reps_mem δ r1 a ha).1
  have hV : ∀ a, a ∈ V1 → F a = none := fun a ha => (reps_mem T r2 a ha).2
  have hN : ∀ a, a ∈ SU ++ SM → F a = none := fun a ha => hS a (inS a ((List.mem_append.mp ha).imp id .inl))
  have fN : Fresh HB (SU ++ SM) := fun a ha => f1 a (inS a ((List.mem_append.mp ha).imp id .inl))
  have exv := fz_ext R.ex hN fN
  have sv := fz_same R.ex.in' hN
  have out : ∀ a, a ∉ SU → a ∉ SM → fz F H (SU ++ SM) a = F a := fun a h1 h2 => if_neg (by simp [h1, h2])
  have at1 : ∀ a, a ∈ SU → fz F H (SU ++ SM) a = H a := fun a ha => fz_at (List.mem_append_left _ ha)
  have at2 : ∀ a, a ∈ SM → fz F H (SU ++ SM) a = H a := fun a ha => fz_at (List.mem_append_right _ ha)
  have rv : Reps K (fz F H (SU ++ SM)) H (frzU U 0 δ) vs SR := g _ sv at1 at2 fun a ha => (out a (fun z => (a1 a z).2 ha) (fun z => a2 a z ha)).trans (hS a (inS a (.inr (.inr ha))))
  refine ⟨fz F H (SU ++ SM), exv, ⟨exv.in', R.sl.1, by rw [frzs_len, R.dl], fun i hi => ?_⟩, fun F' H' d v S' e r f q => ?_⟩
  · rw [getD_frzs]
    by_cases hn : i < n
    · rcases hv i hn with z | z
      · rw [z]; exact .inl (by simp [D.frz])
      · right
        have hi' : (frzU U 0 δ)[i]? = some (getD' δ i).frz := by
          rw [frzU_get, Nat.zero_add]
          unfold getD'
          rw [List.getD_eq_getElem?_getD, List.getElem?_eq_getElem (by rw [R.dl]; exact hn)]
          simp [hi]
        obtain ⟨v, S', k1, k2, k3⟩ := reps_get rv hi'
        rw [k1] at z
        exact ⟨v, z, by rw [← rep_nil _ k2]; exact k2⟩
    · left
      unfold getD'
      rw [List.getD_eq_getElem?_getD, List.getElem?_eq_none (by rw [R.dl]; omega)]
      simp [D.frz]
  · -- what is let be again
    have sF : Same F (les F' (SM ++ SR)) := fun a o h => by
      have : a ∉ SM ++ SR := fun z => by
        rw [hS a (inS a (.inr (List.mem_append.mp z)))] at h
        cases h
      rw [les_out this]
      exact e.f _ _ (sv _ _ h)
    have no : ∀ a, a ∈ SM ++ SR → les F' (SM ++ SR) a = none := fun a ha => if_pos ha
    have old : ∀ a, H a ≠ none → fz F H (SU ++ SM) a = none → F' a = none := e.new
    have exu : Ext FB.f HB (les F' (SM ++ SR)) H' := by
      have q1 := exv.trans e
      exact ⟨R.ex.f.trans sF, q1.h, les_in.trans q1.in', fun a h1 h2 => les_in.free (q1.new a h1 h2)⟩
    obtain ⟨SX, rx, hx⟩ := g' (les F' (SM ++ SR)) sF (fun a ha => by
      rw [les_out (by rw [List.mem_append]; exact fun z => z.elim (a1 a ha).1 (a1 a ha).2)]
      obtain ⟨o, ho⟩ := oS a (inS a (.inl ha))
      rw [ho]
      exact e.f _ _ ((at1 a ha).trans ho)) (fun a ha => no a (List.mem_append_left _ ha)) (fun a ha => no a (List.mem_append_right _ ha))
    have rx' : Reps K (les F' (SM ++ SR)) H' (frzU U' 0 δ) vs SX := reps_mono (.refl _) e.h _ rx fun a ha => no a (List.mem_append.mpr (hx a ha))
    have vT : ∀ a, a ∈ V1 → les F' (SM ++ SR) a = none := fun a ha => by
      obtain ⟨⟨o, ho⟩, hf⟩ := reps_mem T r2 a ha
      refine les_in.free (old a (by rw [ho]; exact fun z => nomatch z) ?_)
      rw [out a (fun z => ap a (inS a (.inl z)) ha) (fun z => ap a (inS a (.inr (.inl z))) ha)]
      exact hf
    have rt : Reps K (les F' (SM ++ SR)) H' T ws V1 := reps_mono sF e.h T r2 vT
    have ok : ∃ i, i ∈ U ∧ i ∉ U' ∨ SM = [] := by
      cases SM with
      | nil => exact ⟨0, .inr rfl⟩
      | cons a l =>
        obtain ⟨i, d', v', Si, q1, q2, q3, q4⟩ := w a List.mem_cons_self
        rw [Nat.zero_add] at q2 q3
        exact ⟨i, .inl ⟨q2, q3⟩⟩
    have rd : Rep K (les F' (SM ++ SR)) H' d v S' := by
      by_cases hM : SM = []
      · -- nothing is let be: only slots that were not seen
        have same : les F' (SM ++ SR) = F' := by
          funext a
          by_cases ha : a ∈ SM ++ SR
          · rw [no a ha]
            have ha' : a ∈ SR := by simpa [hM] using ha
            obtain ⟨o, ho⟩ := oS a (inS a (.inr (.inr ha')))
            exact (old a (by rw [ho]; exact fun z => nomatch z) ((out a (fun z => (a1 a z).2 ha') (fun z => a2 a z ha')).trans (hS a (inS a (.inr (.inr ha')))))).symm
          · exact les_out ha
        rw [same]; exact r
      · obtain ⟨i0, ok | ok⟩ := ok
        · have p0 := q i0 ok.1 ok.2
          have pl : d.plain = true := by
            unfold awayD at p0
            split at p0
            · simp only [Bool.and_eq_true] at p0; exact p0.1.2
            · cases p0
          refine rep_les d r pl fun es us a he hf ⟨S3, rs⟩ ha => ?_
          rcases List.mem_append.mp ha with z | z
          · obtain ⟨i, d', v', Si, q1, q2, q3, q4, q5⟩ := w a z
            rw [Nat.zero_add] at q2 q3
            have ge : getD' δ i = d' := by unfold getD'; rw [List.getD_eq_getElem?_getD, q1]; rfl
            have p := q i q2 q3
            rw [ge] at p
            unfold awayD at p
            split at p
            · rename_i ds
              simp only [Bool.and_eq_true, List.all_eq_true] at p
              simp only [Rep] at q4
              obtain ⟨b, xs, S4, rfl, h1, h2, h3, _, rfl⟩ := q4
              rw [reps_bare ds h3 p.1.1] at q5
              have hb : a = b := by simpa using q5
              subst hb
              have h5 : F' a = some (.lst xs) := e.f _ _ ((at2 a z).trans h1)
              rw [h5] at hf
              cases hf
              exact disL_no (p.2 es he) rs h3
            · cases p
          · obtain ⟨o, ho⟩ := oS a (inS a (.inr (.inr z)))
            rw [old a (by rw [ho]; exact fun y => nomatch y) ((out a (fun y => (a1 a y).2 z) (fun y => a2 a y z)).trans (hS a (inS a (.inr (.inr z)))))] at hf
            cases hf
        · exact absurd ok hM
    have fX : Fresh HB SX := fun a ha => f1 a (inS a (.inr (hx a ha)))
    refine ⟨les F' (SM ++ SR), .join exu R.sl (by rw [frzU_len, R.dl]) hl (fun i hi => ?_) rx' (reps_cons rd rt ?_) fX (fun a ha => (List.mem_append.mp ha).elim (f.mono R.ex.h a) (f2 a)) ?_⟩
    · rw [getD_frzU]
      rcases hv i hi with z | z
      · rw [z]; left; split <;> simp [D.frz]
      · exact .inr z
    · intro a ha hb
      obtain ⟨⟨_, z⟩, _⟩ := reps_mem T r2 a hb
      rw [f a ha] at z
      cases z
    · intro a ha hb
      rcases List.mem_append.mp hb with z | z
      · obtain ⟨o, ho⟩ := oS a (inS a (.inr (hx a ha)))
        rw [f a z] at ho
        cases ho
      · exact ap a (inS a (.inr (hx a ha))) z
theorem Rs.grow (R : Rs K n FB HB F H σ δ ws T) {H' : Hp} (h : Same H H') : Rs K n FB HB F H' σ δ ws T := by
  obtain ⟨vs, S, U, hl, hv, r1, r2, f1, f2, ap⟩ := R.apart
  have eH : Ext F H F H' := ⟨.refl _, h, R.ex.in'.trans h, fun _ _ z => z⟩
  exact .join (R.ex.trans eH) R.sl R.dl hl hv (reps_ext eH r1) (reps_ext eH r2) f1 f2 ap
mutual
theorem dif_no {F H : Hp} (sm : Same F H) : ∀ (d e : D) {v : V} {S1 S2 : List Addr}, D.dif d e = true → Rep K F H d v S1 → Rep K F H e v S2 → False
  | .int i, e, v, S1, S2, h, r1, r2 => by
    simp only [Rep] at r1
    obtain ⟨rfl, _⟩ := r1
    cases e <;> first | (simp [D.dif] at h; done) | skip
    · rename_i j
      simp only [Rep] at r2
      obtain ⟨e, _⟩ := r2
      cases e
      simp [D.dif] at h
    · simp only [Rep] at r2
      obtain ⟨_, _, e, _⟩ := r2
      cases e
    · rename_i k _
      cases k <;> simp only [Rep] at r2 <;> obtain ⟨_, _, r2⟩ := r2
      · obtain ⟨_, e, _⟩ := r2; cases e
      · obtain ⟨e, _⟩ := r2; cases e
      · obtain ⟨e, _⟩ := r2; cases e
  | .str i, e, v, S1, S2, h, r1, r2 => by
    cases e <;> first | (simp [D.dif] at h; done) | skip
    rename_i j
    simp only [Rep] at r1 r2
    obtain ⟨rfl, _⟩ := r1
    obtain ⟨e, _⟩ := r2
    cases e
    simp [D.dif] at h
  | .tup ds, .int _, v, S1, S2, h, r1, r2 => by
    simp only [Rep] at r1 r2
    obtain ⟨rfl, _⟩ := r2
    obtain ⟨_, _, e, _⟩ := r1
    cases e
  | .lst k ds, .int _, v, S1, S2, h, r1, r2 => by
    simp only [Rep] at r2
    obtain ⟨rfl, _⟩ := r2
    cases k <;> simp only [Rep] at r1 <;> obtain ⟨_, _, r1⟩ := r1
    · obtain ⟨_, e, _⟩ := r1; cases e
    · obtain ⟨e, _⟩ := r1; cases e
    · obtain ⟨e, _⟩ := r1; cases e
  | .tup ds, .tup es, v, S1, S2, h, r1, r2 => by
    simp only [D.dif] at h
    simp only [Rep] at r1 r2
    obtain ⟨a, us, rfl, h1, q1⟩ := r1
    obtain ⟨b, ws, e, h2, q2⟩ := r2
    cases e
    rw [h1] at h2
    cases h2
    exact difs_no sm ds es h q1 q2
  | .lst k ds, .lst k' es, v, S1, S2, h, r1, r2 => by
    simp only [D.dif, Bool.and_eq_true, decide_eq_true_eq] at h
    obtain ⟨⟨hk, hk'⟩, h⟩ := h
    have p1 : ∃ a us S, v = .ref a ∧ H a = some (.lst us) ∧ Reps K F H ds us S := by
      cases k with
      | own => simp only [Rep] at r1; obtain ⟨a, us, S, e, h1, _, q, _⟩ := r1; exact ⟨a, us, S, e, h1, q⟩
      | frz => simp only [Rep] at r1; obtain ⟨a, us, e, h1, q, _⟩ := r1; exact ⟨a, us, [], e, sm _ _ h1, q⟩
      | ro => exact absurd rfl hk
    have p2 : ∃ a us S, v = .ref a ∧ H a = some (.lst us) ∧ Reps K F H es us S := by
      cases k' with
      | own => simp only [Rep] at r2; obtain ⟨a, us, S, e, h1, _, q, _⟩ := r2; exact ⟨a, us, S, e, h1, q⟩
      | frz => simp only [Rep] at r2; obtain ⟨a, us, e, h1, q, _⟩ := r2; exact ⟨a, us, [], e, sm _ _ h1, q⟩
      | ro => exact absurd rfl hk'
    obtain ⟨a, us, Sa, rfl, h1, q1⟩ := p1
    obtain ⟨b, ws, Sb, e, h2, q2⟩ := p2
    cases e
    rw [h1] at h2
    cases h2
    exact difs_no sm ds es h q1 q2
  | .tup _, .any, _, _, _, h, _, _ => by simp [D.dif] at h
  | .tup _, .non, _, _, _, h, _, _ => by simp [D.dif] at h
  | .tup _, .bl _, _, _, _, h, _, _ => by simp [D.dif] at h
  | .tup _, .str _, _, _, _, h, _, _ => by simp [D.dif] at h
  | .tup _, .exc _, _, _, _, h, _, _ => by simp [D.dif] at h
  | .tup _, .lst _ _, _, _, _, h, _, _ => by simp [D.dif] at h
  | .tup _, .dct _ _ _ _, _, _, _, h, _, _ => by simp [D.dif] at h
  | .lst _ _, .any, _, _, _, h, _, _ => by simp [D.dif] at h
  | .lst _ _, .non, _, _, _, h, _, _ => by simp [D.dif] at h
  | .lst _ _, .bl _, _, _, _, h, _, _ => by simp [D.dif] at h
  | .lst _ _, .str _, _, _, _, h, _, _ => by simp [D.dif] at h
  | .lst _ _, .exc _, _, _, _, h, _, _ => by simp [D.dif] at h
  | .lst _ _, .tup _, _, _, _, h, _, _ => by simp [D.dif] at h
  | .lst _ _, .dct _ _ _ _, _, _, _, h, _, _ => by simp [D.dif] at h
  | .any, e, _, _, _, h, _, _ => by simp [D.dif] at h
  | .non, e, _, _, _, h, _, _ => by simp [D.dif] at h
  | .bl _, e, _, _, _, h, _, _ => by simp [D.dif] at h
  | .exc _, e, _, _, _, h, _, _ => by simp [D.dif] at h
  | .dct _ _ _ _, e, _, _, _, h, _, _ => by simp [D.dif] at h
theorem difs_no {F H : Hp} (sm : Same F H) : ∀ (ds es : List D) {us : List V} {S1 S2 : List Addr}, D.difs ds es = true → Reps K F H ds us S1 → Reps K F H es us S2 → False
  | [], [], _, _, _, h, _, _ => by simp [D.difs] at h
  | [], e :: es, us, S1, S2, h, r1, r2 => by
    have a := reps_len r1
    have b := reps_len r2
    rw [a] at b
    simp at b
  | d :: ds, [], us, S1, S2, h, r1, r2 => by
    have a := reps_len r1
    have b := reps_len r2
    rw [a] at b
    simp at b
  | d :: ds, e :: es, us, S1, S2, h, r1, r2 => by
    obtain ⟨v, vr, A1, A2, rfl, q1, q2, _, _⟩ := reps_uncons r1
    obtain ⟨w, wr, B1, B2, e', p1, p2, _, _⟩ := reps_uncons r2
    cases e'
    simp only [D.difs, Bool.or_eq_true] at h
    rcases h with h | h
    · exact dif_no sm d e h q1 p1
    · exact difs_no sm ds es h q2 p2
end
/-- an address that thawing adds -/
def Thw (K : PySem.W.Frag) (F H : Hp) (l : List (List D)) (a : Addr) : Prop := ∃ ds us, ds ∈ l ∧ F a = some (.lst us) ∧ Reps K F H ds us []
mutual
theorem rep_thaw {F0 F H : Hp} (sm : Same F H) (h1 : ∀ a, F a ≠ none → F0 a = none) : ∀ (d : D) {v : V} {S : List Addr}, Rep K F H d v S → d.plain = true → d.ffs.Pairwise (fun a b => D.difs a b = true) → (∀ a, a ∈ S → F0 a = none) →
    ∃ S2, Rep K F0 H d.thaw v S2 ∧ ∀ a, a ∈ S2 → a ∈ S ∨ Thw K F H d.ffs a
  | .any, _, _, _, p, _, _ => by simp [D.plain] at p
  | .non, _, _, h, _, _, _ => ⟨[], by simp only [Rep, D.thaw] at h ⊢; exact ⟨h.1, trivial⟩, fun a ha => nomatch ha⟩
  | .bl _, _, _, h, _, _, _ => ⟨[], by simp only [Rep, D.thaw] at h ⊢; exact ⟨h.1, trivial⟩, fun a ha => nomatch ha⟩
  | .int _, _, _, h, _, _, _ => ⟨[], by simp only [Rep, D.thaw] at h ⊢; exact ⟨h.1, trivial⟩, fun a ha => nomatch ha⟩
  | .str _, _, _, h, _, _, _ => ⟨[], by simp only [Rep, D.thaw] at h ⊢; exact ⟨h.1, trivial⟩, fun a ha => nomatch ha⟩
  | .exc _, _, _, h, _, _, _ => ⟨[], by simp only [Rep, D.thaw] at h ⊢; obtain ⟨a, e1, e2, _⟩ := h; exact ⟨a, e1, e2, trivial⟩, fun a ha => nomatch ha⟩
  | .tup ds, v, S, h, p, pw, hS => by
    simp only [Rep] at h
    obtain ⟨a, vs, e1, e2, h3⟩ := h
    obtain ⟨S2, q1, q2⟩ := reps_thaw sm h1 ds h3 (by simpa [D.plain] using p) (by simpa [D.ffs] using pw) hS
    refine ⟨S2, ?_, fun b hb => by simpa [D.ffs] using q2 b hb⟩
    simp only [D.thaw, Rep]
    exact ⟨a, vs, e1, e2, q1⟩
  | .lst .own ds, v, S, h, p, pw, hS => by
    simp only [Rep] at h
    obtain ⟨a, vs, S', e1, e2, e3, h3, e4, rfl⟩ := h
    obtain ⟨S2, q1, q2⟩ := reps_thaw sm h1 ds h3 (by simpa [D.plain] using p) (by simpa [D.ffs] using pw) (fun b hb => hS b (List.mem_cons_of_mem _ hb))
    refine ⟨a :: S2, ?_, fun b hb => ?_⟩
    · simp only [D.thaw, Rep]
      refine ⟨a, vs, S2, e1, e2, hS a List.mem_cons_self, q1, fun z => ?_, rfl⟩
      rcases q2 a z with y | ⟨es, us, _, y, _⟩
      · exact e4 y
      · rw [e3] at y; cases y
    · rcases List.mem_cons.mp hb with rfl | hb
      · exact .inl List.mem_cons_self
      · rcases q2 b hb with y | y
        · exact .inl (List.mem_cons_of_mem _ y)
        · exact .inr (by simpa [D.ffs] using y)
  | .lst .frz ds, v, S, h, p, pw, hS => by
    simp only [Rep] at h
    obtain ⟨a, vs, e1, e2, h3, rfl⟩ := h
    have pw' : (ds :: D.ffss ds).Pairwise (fun a b => D.difs a b = true) := by simpa [D.ffs] using pw
    obtain ⟨pa, pb⟩ := List.pairwise_cons.mp pw'
    obtain ⟨S2, q1, q2⟩ := reps_thaw sm h1 ds h3 (by simpa [D.plain] using p) pb (fun b hb => nomatch hb)
    refine ⟨a :: S2, ?_, fun b hb => ?_⟩
    · simp only [D.thaw, Rep]
      refine ⟨a, vs, S2, e1, sm _ _ e2, h1 a (by rw [e2]; exact fun z => nomatch z), q1, fun z => ?_, rfl⟩
      rcases q2 a z with y | ⟨es, us, y1, y2, y3⟩
      · exact nomatch y
      · rw [e2] at y2
        cases y2
        exact difs_no sm ds es (pa es y1) h3 y3
    · rcases List.mem_cons.mp hb with rfl | hb
      · exact .inr ⟨ds, vs, by simp [D.ffs], e2, h3⟩
      · rcases q2 b hb with y | ⟨es, us, y1, y2, y3⟩
        · exact nomatch y
        · exact .inr ⟨es, us, by simp [D.ffs, y1], y2, y3⟩
  | .lst .ro _, _, _, _, p, _, _ => by simp [D.plain] at p
  | .dct _ _ _ _, _, _, _, p, _, _ => by simp [D.plain] at p
theorem reps_thaw {F0 F H : Hp} (sm : Same F H) (h1 : ∀ a, F a ≠ none → F0 a = none) : ∀ (ds : List D) {vs : List V} {S : List Addr}, Reps K F H ds vs S → D.plains ds = true → (D.ffss ds).Pairwise (fun a b => D.difs a b = true) → (∀ a, a ∈ S → F0 a = none) →
    ∃ S2, Reps K F0 H (D.thaws ds) vs S2 ∧ ∀ a, a ∈ S2 → a ∈ S ∨ Thw K F H (D.ffss ds) a
  | [], _, _, h, _, _, _ => ⟨[], by simp only [Reps, D.thaws] at h ⊢; exact ⟨h.1, trivial⟩, fun a ha => nomatch ha⟩
  | d :: ds, vs, S, h, p, pw, hS => by
    obtain ⟨v, vr, S1, S2, rfl, q1, q2, q3, rfl⟩ := reps_uncons h
    simp only [D.plains, Bool.and_eq_true] at p
    simp only [D.ffss] at pw
    obtain ⟨w1, w2, w3⟩ := List.pairwise_append.mp pw
    obtain ⟨A, a1, a2⟩ := rep_thaw sm h1 d q1 p.1 w1 fun a ha => hS a (List.mem_append_left _ ha)
    obtain ⟨B, b1, b2⟩ := reps_thaw sm h1 ds q2 p.2 w2 fun a ha => hS a (List.mem_append_right _ ha)
    refine ⟨A ++ B, ?_, fun a ha => ?_⟩
    · simp only [D.thaws]
      refine reps_cons a1 b1 fun a ha hb => ?_
      rcases a2 a ha with x | ⟨es, us, x1, x2, x3⟩ <;> rcases b2 a hb with y | ⟨fs, ws, y1, y2, y3⟩
      · exact q3 a x y
      · have := (rep_mem d q1 a x).2
        rw [this] at y2; cases y2
      · have := (reps_mem ds q2 a y).2
        rw [this] at x2; cases x2
      · rw [x2] at y2
        cases y2
        exact difs_no sm es fs (w3 es x1 fs y1) x3 y3
    · rcases List.mem_append.mp ha with z | z
      · rcases a2 a z with x | ⟨es, us, x1, x2, x3⟩
        · exact .inl (List.mem_append_left _ x)
        · exact .inr ⟨es, us, by simp only [D.ffss]; exact List.mem_append_left _ x1, x2, x3⟩
      · rcases b2 a z with x | ⟨es, us, x1, x2, x3⟩
        · exact .inl (List.mem_append_right _ x)
        · exact .inr ⟨es, us, by simp only [D.ffss]; exact List.mem_append_right _ x1, x2, x3⟩
end
theorem anyU_len {U : List Nat} : ∀ (k : Nat) (δ : List D), (anyU U k δ).length = δ.length
  | _, [] => rfl
  | k, d :: ds => by simp [anyU, anyU_len]
theorem anyU_get {U : List Nat} : ∀ {k : Nat} {δ : List D} {i : Nat}, (anyU U k δ)[i]? = δ[i]?.map fun d => if k + i ∈ U then .any else d
  | k, [], i => by simp [anyU]
  | k, d :: ds, 0 => by simp [anyU]
  | k, d :: ds, i + 1 => by
    simp only [anyU, List.getElem?_cons_succ]
    rw [anyU_get, show k + 1 + i = k + (i + 1) by omega]
theorem getD_anyU {U : List Nat} (i : Nat) : getD' (anyU U 0 δ) i = if i ∈ U then .any else getD' δ i := by
  unfold getD'
  rw [List.getD_eq_getElem?_getD, List.getD_eq_getElem?_getD, anyU_get]
  cases δ[i]? <;> simp
theorem vuO_eq : ∀ δ : List D, vuO δ = δ.map fun d => if d.pur then d.frz else .any
  | [] => rfl
  | d :: ds => by simp [vuO, vuO_eq ds]
theorem getD_vuO (i : Nat) : getD' (vuO δ) i = if (getD' δ i).pur then (getD' δ i).frz else .any := by
  unfold getD'
  rw [vuO_eq, List.getD_eq_getElem?_getD, List.getD_eq_getElem?_getD, List.getElem?_map]
  cases δ[i]? <;> simp [D.frz, D.pur]
theorem reps_anyU {U : List Nat} : ∀ {δ : List D} {vs : List V} {S : List Addr} (k : Nat), Reps K F H δ vs S → ∃ SU SR : List Addr, (∀ a, a ∈ S ↔ a ∈ SU ∨ a ∈ SR) ∧ (∀ a, a ∈ SU → a ∉ SR) ∧ Reps K F H (anyU U k δ) vs SR ∧
    ∀ i d, δ[i]? = some d → k + i ∈ U → ∃ v Si, vs[i]? = some v ∧ Rep K F H d v Si ∧ ∀ a, a ∈ Si → a ∈ SU
  | [], vs, S, k, h => by
    simp only [Reps] at h
    obtain ⟨rfl, rfl⟩ := h
    exact ⟨[], [], fun a => by simp, (fun a ha => nomatch ha), by simp [anyU, Reps], fun i d hd => by simp at hd⟩
  | d :: ds, vs, S, k, h => by
    obtain ⟨v, vr, S1, S2, rfl, h1, h2, h3, rfl⟩ := reps_uncons h
    obtain ⟨SU, SR, m, ap, g, w⟩ := reps_anyU (U := U) (k + 1) h2
    by_cases hk : k ∈ U
    · refine ⟨S1 ++ SU, SR, fun a => ?_, fun a ha hb => ?_, ?_, fun i d' hd hi => ?_⟩
      · rw [List.mem_append, m, List.mem_append, or_assoc]
      · rcases List.mem_append.mp ha with z | z
        · exact h3 a z ((m a).mpr (.inr hb))
        · exact ap a z hb
      · simp only [anyU, if_pos hk]
        exact reps_cons (S := []) (show Rep K F H .any v [] by simp only [Rep]) g (fun a ha => nomatch ha)
      · cases i with
        | zero => cases hd; exact ⟨v, S1, rfl, h1, fun a ha => List.mem_append_left _ ha⟩
        | succ i =>
          obtain ⟨x, Si, e1, e2, e3⟩ := w i d' (by simpa using hd) (by rw [show k + 1 + i = k + (i + 1) by omega]; exact hi)
          exact ⟨x, Si, by simpa using e1, e2, fun a ha => List.mem_append_right _ (e3 a ha)⟩
    · refine ⟨SU, S1 ++ SR, fun a => ?_, fun a ha hb => ?_, ?_, fun i d' hd hi => ?_⟩
      · rw [List.mem_append, m, List.mem_append]
        constructor
        · rintro (z | z | z)
          · exact .inr (.inl z)
          · exact .inl z
          · exact .inr (.inr z)
        · rintro (z | z | z)
          · exact .inr (.inl z)
          · exact .inl z
          · exact .inr (.inr z)
      · rcases List.mem_append.mp hb with z | z
        · exact h3 a z ((m a).mpr (.inl ha))
        · exact ap a ha z
      · simp only [anyU, if_neg hk]
        exact reps_cons h1 g fun a ha hb => h3 a ha ((m a).mpr (.inr hb))
      · cases i with
        | zero => exact absurd hi hk
        | succ i =>
          obtain ⟨x, Si, e1, e2, e3⟩ := w i d' (by simpa using hd) (by rw [show k + 1 + i = k + (i + 1) by omega]; exact hi)
          exact ⟨x, Si, by simpa using e1, e2, e3⟩
noncomputable def onF (H : Hp) (A : List Addr) : Hp := fun a => if a ∈ A then H a else none
/-- what an expression of own slots alone sees, and how one goes on -/
theorem Rs.viewO (R : Rs K n FB HB F H σ δ ws T) (U : List Nat) : ∃ Fv, EnvF K n U Fv H σ (vuO δ) ∧
    (∀ F' H' d v S, Ext Fv H F' H' → Rep K F' H' d v S → Fresh H S → d.pur = true → Rs K n FB HB F H' σ δ (v :: ws) (d :: T)) ∧
    (∀ F' H' d v S, Ext Fv H F' H' → Rep K F' H' d v S → Fresh H S → sepD d = true → Rs K n FB HB F H' σ (anyU U 0 δ) (v :: ws) (d.thaw :: T)) := by
  obtain ⟨vs, S, V1, hl, hv, r1, r2, f1, f2, ap⟩ := R.apart
  obtain ⟨SU, SR, m, ap2, g, w⟩ := reps_anyU (U := U) 0 r1
  have inU : ∀ a, a ∈ SU → a ∈ S := fun a ha => (m a).mpr (.inl ha)
  have sv : Same (onF H SU) H := fun a o e => by
    by_cases ha : a ∈ SU
    · rw [show onF H SU a = H a from if_pos ha] at e; exact e
    · rw [show onF H SU a = none from if_neg ha] at e; cases e
  refine ⟨onF H SU, ⟨sv, R.sl.1, by rw [vuO_eq, List.length_map, R.dl], fun i hi => ?_⟩, fun F' H' d v S' e r f p => ?_, fun F' H' d v S' e r f p => ?_⟩
  · rw [getD_vuO]
    split
    case isFalse => exact .inl rfl
    rename_i hp
    by_cases hn : i < n
    · rcases hv i hn with z | z
      · rw [z]; exact .inl (by simp [D.frz])
      · right
        have hi' : δ[i]? = some (getD' δ i) := by
          unfold getD'
          rw [List.getD_eq_getElem?_getD, List.getElem?_eq_getElem (by rw [R.dl]; exact hn)]
          rfl
        obtain ⟨v, Si, k1, k2, k3⟩ := w i _ hi' (by rw [Nat.zero_add]; exact hi)
        rw [k1] at z
        have k4 : Rep K (fun _ => none) H (getD' δ i) v Si := rep_pur _ hp k2 fun a _ => rfl
        exact ⟨v, z, rep_frz (F := fun _ => none) (fun a o e => by cases e) _ k4 fun a ha => if_pos (k3 a ha)⟩
    · left
      unfold getD'
      rw [List.getD_eq_getElem?_getD, List.getElem?_eq_none (by rw [R.dl]; omega)]
      simp [D.frz]
  · have f' : Fresh HB S' := f.mono R.ex.h
    have hS' : ∀ a, a ∈ S' → F a = none := fun a ha => R.ex.in'.free (f a ha)
    have r' : Rep K F H' d v S' := rep_pur d p r hS'
    have eH : Ext F H F H' := ⟨.refl _, e.h, R.ex.in'.trans e.h, fun _ _ z => z⟩
    refine .join (R.ex.trans eH) R.sl R.dl hl hv (reps_ext eH r1) (reps_cons r' (reps_ext eH r2) ?_) f1 (fun a ha => (List.mem_append.mp ha).elim (f' a) (f2 a)) ?_
    · intro a ha hb
      obtain ⟨⟨_, z⟩, _⟩ := reps_mem T r2 a hb
      rw [f a ha] at z
      cases z
    · intro a ha hb
      rcases List.mem_append.mp hb with z | z
      · exact freshs_apart r1 f a ha z
      · exact ap a ha z
  · have eH : Ext F H F H' := ⟨.refl _, e.h, R.ex.in'.trans e.h, fun _ _ z => z⟩
    have key : ∀ a, F' a ≠ none → a ∈ SU ∨ H a = none := fun a ha => by
      by_cases h1 : a ∈ SU
      · exact .inl h1
      · by_cases h2 : H a = none
        · exact .inr h2
        · exact absurd (e.new a h2 (if_neg h1)) ha
    have h1 : ∀ a, F' a ≠ none → F a = none := fun a ha => (key a ha).elim (fun z => (reps_mem δ r1 a (inU a z)).2) fun z => R.ex.in'.free z
    simp only [sepD, Bool.and_eq_true, decide_eq_true_eq] at p
    obtain ⟨S2, q1, q2⟩ := rep_thaw (F0 := F) e.in' h1 d r p.1 p.2 (fun a ha => R.ex.in'.free (f a ha))
    have loc : ∀ a, a ∈ S2 → a ∈ SU ∨ H a = none := fun a ha => by
      rcases q2 a ha with z | ⟨_, us, _, z, _⟩
      · exact .inr (f a z)
      · exact key a (by rw [z]; exact fun y => nomatch y)
    have f' : Fresh HB S2 := fun a ha => (loc a ha).elim (fun z => f1 a (inU a z)) fun z => R.ex.h.free z
    refine .join (R.ex.trans eH) R.sl (by rw [anyU_len, R.dl]) hl (fun i hi => ?_) (reps_ext eH g) (reps_cons q1 (reps_ext eH r2) ?_) (fun a ha => f1 a ((m a).mpr (.inr ha))) (fun a ha => (List.mem_append.mp ha).elim (f' a) (f2 a)) ?_
    · rw [getD_anyU]
      split
      · exact .inl rfl
      · exact hv i hi
    · intro a ha hb
      rcases loc a ha with z | z
      · exact ap a (inU a z) hb
      · obtain ⟨⟨_, y⟩, _⟩ := reps_mem T r2 a hb
        rw [z] at y; cases y
    · intro a ha hb
      rcases List.mem_append.mp hb with y | y
      · rcases loc a y with z | z
        · exact ap2 a z ha
        · obtain ⟨⟨_, x⟩, _⟩ := reps_mem _ g a ha
          rw [z] at x; cases x
      · exact ap a ((m a).mpr (.inr ha)) y
end
end Mn

/-! MnH: moves between owners: slots, temporaries, places within lists. -/
namespace Mn
open PySem PySem.Spec L2
open PyProof.Rows hiding St

section
variable {K : PySem.W.Frag} {n : Nat} {FB : Bs} {HB F H F' H' : Hp} {σ : St} {δ : List D} {ws : List V} {T : List D}

theorem reps_pres {So : List Addr} (pr : ∀ (d : D) v S, Rep K F H d v S → (∀ a, a ∈ S → a ∈ So) → Rep K F' H' d v S) : ∀ {ds : List D} {vs : List V} {S : List Addr}, Reps K F H ds vs S → (∀ a, a ∈ S → a ∈ So) → Reps K F' H' ds vs S
  | [], vs, S, h, _ => by simp only [Reps] at h ⊢; exact h
  | d :: ds, vs, S, h, hs => by
    obtain ⟨v, vr, S1, S2, rfl, h1, h2, h3, rfl⟩ := reps_uncons h
    exact reps_cons (pr d v S1 h1 fun a ha => hs a (List.mem_append_left _ ha)) (reps_pres pr h2 fun a ha => hs a (List.mem_append_right _ ha)) h3
/-- one item of several -/
theorem reps_focus : ∀ {ds : List D} {vs : List V} {S : List Addr} {k : Nat} {d : D}, Reps K F H ds vs S → ds[k]? = some d → ∃ v, ∃ Sk So : List Addr, vs[k]? = some v ∧ Rep K F H d v Sk ∧ (∀ a, a ∈ S ↔ a ∈ Sk ∨ a ∈ So) ∧ (∀ a, a ∈ Sk → a ∉ So) ∧
    ∀ F' H' d' Sk', (∀ (e : D) u U, Rep K F H e u U → (∀ a, a ∈ U → a ∈ So) → Rep K F' H' e u U) → Rep K F' H' d' v Sk' → (∀ a, a ∈ Sk' → a ∉ So) → ∃ S' : List Addr, Reps K F' H' (ds.set k d') vs S' ∧ ∀ a, a ∈ S' ↔ a ∈ Sk' ∨ a ∈ So
  | [], vs, S, k, d, h, hd => by simp at hd
  | x :: ds, vs, S, 0, d, h, hd => by
    obtain ⟨v, vr, S1, S2, rfl, h1, h2, h3, rfl⟩ := reps_uncons h
    simp at hd
    subst hd
    refine ⟨v, S1, S2, rfl, h1, fun a => List.mem_append, h3, fun F' H' d' Sk' pr r ap => ⟨Sk' ++ S2, ?_, fun a => List.mem_append⟩⟩
    exact reps_cons r (reps_pres pr h2 fun a ha => ha) ap
  | x :: ds, vs, S, k + 1, d, h, hd => by
    obtain ⟨v, vr, S1, S2, rfl, h1, h2, h3, rfl⟩ := reps_uncons h
    obtain ⟨u, Sk, So, k1, k2, k3, k4, k5⟩ := reps_focus h2 (k := k) (by simpa using hd)
    refine ⟨u, Sk, S1 ++ So, by simpa using k1, k2, fun a => ?_, fun a ha hb => ?_, fun F' H' d' Sk' pr r ap => ?_⟩
    · rw [List.mem_append, k3, List.mem_append]
      constructor
      · rintro (z | z | z)
        · exact .inr (.inl z)
        · exact .inl z
        · exact .inr (.inr z)
      · rintro (z | z | z)
        · exact .inr (.inl z)
        · exact .inl z
        · exact .inr (.inr z)
    · rcases List.mem_append.mp hb with z | z
      · exact h3 a z ((k3 a).mpr (.inl ha))
      · exact k4 a ha z
    · obtain ⟨S', q1, q2⟩ := k5 F' H' d' Sk' (fun e u U r hu => pr e u U r fun a ha => List.mem_append_right _ (hu a ha)) r fun a ha hb => ap a ha (List.mem_append_right _ hb)
      refine ⟨S1 ++ S', reps_cons (pr x v S1 h1 fun a ha => List.mem_append_left _ ha) q1 fun a ha hb => ?_, fun a => ?_⟩
      · rcases (q2 a).mp hb with z | z
        · exact ap a z (List.mem_append_left _ ha)
        · exact h3 a ha ((k3 a).mpr (.inr z))
      · rw [List.mem_append, q2, List.mem_append]
        constructor
        · rintro (z | z | z)
          · exact .inr (.inl z)
          · exact .inl z
          · exact .inr (.inr z)
        · rintro (z | z | z)
          · exact .inr (.inl z)
          · exact .inl z
          · exact .inr (.inr z)
theorem getD_some {i : Nat} {d : D} (h : getD' δ i = d) (hd : d ≠ .any) : δ[i]? = some d := by
  unfold getD' at h
  rw [List.getD_eq_getElem?_getD] at h
  cases e : δ[i]? with
  | none => rw [e] at h; exact absurd h.symm hd
  | some x => rw [e] at h; simp at h; rw [h]
/-- a slot's value is taken -/
theorem Rs.take (R : Rs K n FB HB F H σ δ ws T) {i : Nat} {d : D} (h : getD' δ i = d) (hd : d ≠ .any) : ∃ v, σ[i]? = some (some v) ∧ Rs K n FB HB F H σ (δ.set i .any) (v :: ws) (d :: T) := by
  obtain ⟨vs, S, U, hl, hv, r1, r2, f1, f2, ap⟩ := R.apart
  have hi := getD_some h hd
  obtain ⟨v, Sk, So, k1, k2, k3, k4, k5⟩ := reps_focus r1 hi
  have hn : i < n := by
    have := (List.getElem?_eq_some_iff.mp hi).1
    rw [R.dl] at this
    exact this
  obtain ⟨S', q1, q2⟩ := k5 F H .any [] (fun e u U r _ => r) (by simp only [Rep]) (fun a ha => nomatch ha)
  refine ⟨v, ?_, .join R.ex R.sl (by simp [R.dl]) hl (fun j hj => ?_) q1 (reps_cons k2 r2 fun a ha => ap a ((k3 a).mpr (.inl ha))) (fun a ha => ?_) (fun a ha => ?_) fun a ha hb => ?_⟩
  · rcases hv i hn with z | z
    · rw [h] at z; exact absurd z hd
    · rw [z, k1]
  · rcases getD_set_any (δ := δ) (i := i) (j := j) with z | ⟨_, z⟩
    · exact .inl z
    · rw [z]; exact hv j hj
  · rcases (q2 a).mp ha with z | z
    · cases z
    · exact f1 a ((k3 a).mpr (.inr z))
  · rcases List.mem_append.mp ha with z | z
    · exact f1 a ((k3 a).mpr (.inl z))
    · exact f2 a z
  · rcases (q2 a).mp ha with z | z
    · cases z
    · rcases List.mem_append.mp hb with y | y
      · exact k4 a y z
      · exact ap a ((k3 a).mpr (.inr z)) y
/-- the uppermost temporary dropped -/
theorem Rs.drop {v : V} {d : D} (R : Rs K n FB HB F H σ δ (v :: ws) (d :: T)) : Rs K n FB HB F H σ δ ws T := by
  obtain ⟨vs, S, U, hl, hv, r1, r2, f1, f2, ap⟩ := R.apart
  obtain ⟨v', vr, S1, S2, e, h1, h2, h3, rfl⟩ := reps_uncons r2
  cases e
  exact .join R.ex R.sl R.dl hl hv r1 h2 f1 (fun a ha => f2 a (List.mem_append_right _ ha)) fun a ha hb => ap a ha (List.mem_append_right _ hb)
/-- .. used as an answer -/
theorem Rs.top {v : V} {d : D} (R : Rs K n FB HB F H σ δ (v :: ws) (d :: T)) : ∃ S, Rep K F H d v S ∧ Fresh HB S := by
  obtain ⟨vs, S, U, hl, hv, r1, r2, f1, f2, ap⟩ := R.apart
  obtain ⟨v', vr, S1, S2, e, h1, h2, h3, rfl⟩ := reps_uncons r2
  cases e
  exact ⟨S1, h1, fun a ha => f2 a (List.mem_append_left _ ha)⟩
/-- .. stored in a slot -/
theorem Rs.put {v : V} {d : D} (R : Rs K n FB HB F H σ δ (v :: ws) (d :: T)) (i : Nat) (hp : FB.pn i = none) : Rs K n FB HB F H (σ.set i (some v)) (δ.set i d) ws T := by
  obtain ⟨vs, S, U, hl, hv, r1, r2, f1, f2, ap⟩ := R.apart
  obtain ⟨v', vr, S1, S2, e, h1, h2, h3, rfl⟩ := reps_uncons r2
  cases e
  by_cases hi : i < n
  · have hset : ∃ S', Reps K F H (δ.set i d) (vs.set i v) S' ∧ ∀ a, a ∈ S' → a ∈ S1 ∨ a ∈ S := by
      have gen : ∀ (ds : List D) (us : List V) (W : List Addr) (k : Nat), Reps K F H ds us W → (∀ a, a ∈ S1 → a ∉ W) → k < ds.length → ∃ S', Reps K F H (ds.set k d) (us.set k v) S' ∧ ∀ a, a ∈ S' → a ∈ S1 ∨ a ∈ W := by
        intro ds
        induction ds with
        | nil => intro us W k _ _ hk; simp at hk
        | cons x ds ih =>
          intro us W k h hap hk
          obtain ⟨u, ur, W1, W2, rfl, g1, g2, g3, rfl⟩ := reps_uncons h
          cases k with
          | zero => exact ⟨S1 ++ W2, reps_cons h1 g2 fun a ha hb => hap a ha (List.mem_append_right _ hb), fun a ha => (List.mem_append.mp ha).imp id fun z => List.mem_append_right _ z⟩
          | succ k =>
            obtain ⟨S', q1, q2⟩ := ih ur W2 k g2 (fun a ha hb => hap a ha (List.mem_append_right _ hb)) (by simpa using hk)
            refine ⟨W1 ++ S', reps_cons g1 q1 fun a ha hb => ?_, fun a ha => ?_⟩
            · rcases q2 a hb with z | z
              · exact hap a z (List.mem_append_left _ ha)
              · exact g3 a ha z
            · rcases List.mem_append.mp ha with z | z
              · exact .inr (List.mem_append_left _ z)
              · exact (q2 a z).imp id fun y => List.mem_append_right _ y
      exact gen δ vs S i r1 (fun a ha hb => ap a hb (List.mem_append_left _ ha)) (by rw [R.dl]; exact hi)
    obtain ⟨S', q1, q2⟩ := hset
    refine .join R.ex (R.sl.set hp _) (by simp [R.dl]) (by simp [hl]) (fun j hj => ?_) q1 h2 (fun a ha => ?_) (fun a ha => f2 a (List.mem_append_right _ ha)) fun a ha hb => ?_
    · rw [getD_set (by rw [R.dl]; exact hi)]
      by_cases e : i = j
      · subst e
        right
        rw [List.getElem?_set_self (by rw [R.sl.1]; exact hi), List.getElem?_set_self (by rw [hl]; exact hi)]
      · rw [if_neg e, List.getElem?_set_ne e, List.getElem?_set_ne e]
        exact hv j hj
    · exact (q2 a ha).elim (fun z => f2 a (List.mem_append_left _ z)) (f1 a)
    · exact (q2 a ha).elim (fun z => h3 a z hb) fun z => ap a z (List.mem_append_right _ hb)
  · rw [List.set_eq_of_length_le (by rw [R.sl.1]; omega), List.set_eq_of_length_le (by rw [R.dl]; omega)]
    exact R.drop

/-- a tuple on top is opened -/
theorem Rs.untup {v : V} {ds : List D} (R : Rs K n FB HB F H σ δ (v :: ws) (.tup ds :: T)) : ∃ a us, v = .ref a ∧ H a = some (.tup us) ∧ us.length = ds.length ∧ Rs K n FB HB F H σ δ (us ++ ws) (ds ++ T) := by
  obtain ⟨vs, S, U, hl, hv, r1, r2, f1, f2, ap⟩ := R.apart
  obtain ⟨v', vr, S1, S2, e, h1, h2, h3, rfl⟩ := reps_uncons r2
  cases e
  obtain ⟨a, us, rfl, k1, k2⟩ := rep_tupH h1
  exact ⟨a, us, rfl, k1, reps_len k2, .join R.ex R.sl R.dl hl hv r1 (reps_app k2 h2 h3) f1 f2 ap⟩
/-- a list on top is opened -/
theorem Rs.unlst {v : V} {k : LK} {ds : List D} (R : Rs K n FB HB F H σ δ (v :: ws) (.lst k ds :: T)) : ∃ a us, v = .ref a ∧ SqL K H a us ∧ us.length = ds.length ∧ Rs K n FB HB F H σ δ (us ++ ws) (ds ++ T) := by
  obtain ⟨vs, S, U, hl, hv, r1, r2, f1, f2, ap⟩ := R.apart
  obtain ⟨v', vr, S1, S2, e, h1, h2, h3, rfl⟩ := reps_uncons r2
  cases e
  obtain ⟨a, us, S', rfl, k1, k2, k3⟩ := rep_lst R.ex.in' h1
  refine ⟨a, us, rfl, k1, reps_len k2, .join R.ex R.sl R.dl hl hv r1 (reps_app k2 h2 fun b hb => h3 b (k3 b hb)) f1 (fun b hb => ?_) fun b hb hc => ap b hb ?_⟩
  · rcases List.mem_append.mp hb with z | z
    · exact f2 b (List.mem_append_left _ (k3 b z))
    · exact f2 b (List.mem_append_right _ z)
  · rcases List.mem_append.mp hc with z | z
    · exact List.mem_append_left _ (k3 b z)
    · exact List.mem_append_right _ z
/-- temporaries exchanged -/
theorem Rs.swap {us : List V} {ds : List D} {v : V} {d : D} (hl : us.length = ds.length) (R : Rs K n FB HB F H σ δ (us ++ (v :: ws)) (ds ++ (d :: T))) : Rs K n FB HB F H σ δ (v :: (us ++ ws)) (d :: (ds ++ T)) := by
  obtain ⟨vs, S, U, hlv, hv, r1, r2, f1, f2, ap⟩ := R.apart
  obtain ⟨us', vr, U1, U2, e, rfl, g1, g2, g3⟩ := reps_split r2
  obtain ⟨rfl, rfl⟩ := split_len e (by rw [hl, reps_len g1])
  obtain ⟨v', vr, S1, S2, e, h1, h2, h3, rfl⟩ := reps_uncons g2
  cases e
  refine .join R.ex R.sl R.dl hlv hv r1 (reps_cons h1 (reps_app g1 h2 fun a ha hb => g3 a ha (List.mem_append_right _ hb)) fun a ha hb => ?_) f1 (fun a ha => f2 a ?_) fun a ha hb => ap a ha ?_
  · rcases List.mem_append.mp hb with z | z
    · exact g3 a z (List.mem_append_left _ ha)
    · exact h3 a ha z
  · simp only [List.mem_append] at ha ⊢
    rcases ha with z | z | z
    · exact .inr (.inl z)
    · exact .inl z
    · exact .inr (.inr z)
  · simp only [List.mem_append] at hb ⊢
    rcases hb with z | z | z
    · exact .inr (.inl z)
    · exact .inl z
    · exact .inr (.inr z)
/-- a new tuple of the temporaries on top -/
theorem Rs.tup {us : List V} {ds : List D} (hl : us.length = ds.length) (R : Rs K n FB HB F H σ δ (us ++ ws) (ds ++ T)) {p : Addr} (hp : H p = none) : Rs K n FB HB F (upd H p (.tup us)) σ δ (.ref p :: ws) (.tup ds :: T) := by
  obtain ⟨vs, S, U, hlv, hv, r1, r2, f1, f2, ap⟩ := R.apart
  obtain ⟨us', vr, U1, U2, e, rfl, g1, g2, g3⟩ := reps_split r2
  obtain ⟨rfl, rfl⟩ := split_len e (by rw [hl, reps_len g1])
  have x := ext_step (o := .tup us) R.ex.in' hp
  refine .join (R.ex.trans x) R.sl R.dl hlv hv (reps_ext x r1) (reps_cons ?_ (reps_ext x g2) g3) f1 f2 ap
  simp only [Rep]
  exact ⟨p, us, rfl, upd_same, reps_ext x g1⟩

/-! ### places -/
theorem getD_at {ds : List D} {k : Nat} {d : D} (h : ds.getD k .any = d) (hd : d ≠ .any) : ds[k]? = some d := getD_some (δ := ds) h hd
theorem path_focus {S : List Addr} {vs : List V} (hl : vs.length = n) (dl : δ.length = n) (hv : ∀ i, i < n → getD' δ i = .any ∨ σ[i]? = some (vs[i]?)) (r : Reps K F H δ vs S) : ∀ (p : Pl) {d : D}, getP δ p = d → d ≠ .any →
    ∃ v, ∃ Sd So : List Addr, PlV H σ p v ∧ Rep K F H d v Sd ∧ (∀ a, a ∈ S ↔ a ∈ Sd ∨ a ∈ So) ∧ (∀ a, a ∈ Sd → a ∉ So) ∧
      ∀ H' a d' Sd', Off H H' a → a ∉ So → Rep K F H' d' v Sd' → (∀ a, a ∈ Sd' → a ∉ So) → ∃ S' : List Addr, Reps K F H' (setP δ p d') vs S' ∧ ∀ a, a ∈ S' ↔ a ∈ Sd' ∨ a ∈ So := by
  intro p
  induction p with
  | nm i =>
    intro d h hd
    have hi := getD_some (show getD' δ i = d from h) hd
    have hn : i < n := by
      have := (List.getElem?_eq_some_iff.mp hi).1
      rw [dl] at this
      exact this
    obtain ⟨v, Sk, So, k1, k2, k3, k4, k5⟩ := reps_focus r hi
    refine ⟨v, Sk, So, ?_, k2, k3, k4, fun H' a d' Sd' of ha r' ap => ?_⟩
    · rcases hv i hn with z | z
      · rw [show getD' δ i = d from h] at z; exact absurd z hd
      · show σ[i]? = some (some v)
        rw [z, k1]
    · exact k5 F H' d' Sd' (fun e u U re hu => rep_off of e re fun z => ha (hu a z)) r' ap
  | ix p k ih =>
    intro d h hd
    simp only [getP] at h
    split at h
    · rename_i ds hg
      obtain ⟨v, Sp, So, i1, i2, i3, i4, i5⟩ := ih hg (fun z => nomatch z)
      simp only [Rep] at i2
      obtain ⟨b, us, S', rfl, j1, j2, j3, j4, rfl⟩ := i2
      obtain ⟨w, Sk, Sr, k1, k2, k3, k4, k5⟩ := reps_focus j3 (getD_at h hd)
      refine ⟨w, Sk, b :: (Sr ++ So), ⟨b, us, i1, .inl j1, k1⟩, k2, fun a => ?_, fun a ha hb => ?_, fun H' a d' Sd' of ha r' ap => ?_⟩
      · rw [i3, List.mem_cons, List.mem_cons, List.mem_append, k3]
        constructor
        · rintro ((z | z | z) | z)
          · exact .inr (.inl z)
          · exact .inl z
          · exact .inr (.inr (.inl z))
          · exact .inr (.inr (.inr z))
        · rintro (z | z | z | z)
          · exact .inl (.inr (.inl z))
          · exact .inl (.inl z)
          · exact .inl (.inr (.inr z))
          · exact .inr z
      · rcases List.mem_cons.mp hb with z | z
        · subst z
          exact j4 ((k3 a).mpr (.inl ha))
        · rcases List.mem_append.mp z with z | z
          · exact k4 a ha z
          · exact i4 a (List.mem_cons_of_mem _ ((k3 a).mpr (.inl ha))) z
      · have hab : b ≠ a := fun e => ha (by rw [e]; exact List.mem_cons_self)
        have haSr : a ∉ Sr := fun z => ha (List.mem_cons_of_mem _ (List.mem_append_left _ z))
        have haSo : a ∉ So := fun z => ha (List.mem_cons_of_mem _ (List.mem_append_right _ z))
        obtain ⟨S2, q1, q2⟩ := k5 F H' d' Sd' (fun e u U re hu => rep_off of e re fun z => haSr (hu a z)) r' fun c hc hd => ap c hc (List.mem_cons_of_mem _ (List.mem_append_left _ hd))
        have hb2 : b ∉ S2 := fun z => by
          rcases (q2 b).mp z with y | y
          · exact ap b y List.mem_cons_self
          · exact j4 ((k3 b).mpr (.inr y))
        obtain ⟨S3, q3, q4⟩ := i5 H' a (.lst .own (ds.set k d')) (b :: S2) of haSo (by
          simp only [Rep]
          exact ⟨b, us, S2, rfl, of.keep _ _ hab j1, j2, q1, hb2, rfl⟩) fun c hc hd => by
            rcases List.mem_cons.mp hc with z | z
            · subst z
              exact i4 c List.mem_cons_self hd
            · rcases (q2 c).mp z with y | y
              · exact ap c y (List.mem_cons_of_mem _ (List.mem_append_right _ hd))
              · exact i4 c (List.mem_cons_of_mem _ ((k3 c).mpr (.inr y))) hd
        refine ⟨S3, ?_, fun c => ?_⟩
        · simp only [setP, hg]
          exact q3
        · rw [q4, List.mem_cons, List.mem_cons, List.mem_append, q2]
          constructor
          · rintro ((z | z | z) | z)
            · exact .inr (.inl z)
            · exact .inl z
            · exact .inr (.inr (.inl z))
            · exact .inr (.inr (.inr z))
          · rintro (z | z | z | z)
            · exact .inl (.inr (.inl z))
            · exact .inl (.inl z)
            · exact .inl (.inr (.inr z))
            · exact .inr z
    · rename_i ds hg
      obtain ⟨v, Sp, So, i1, i2, i3, i4, i5⟩ := ih hg (fun z => nomatch z)
      obtain ⟨b, us, rfl, j1, j3⟩ := rep_tupH i2
      obtain ⟨w, Sk, Sr, k1, k2, k3, k4, k5⟩ := reps_focus j3 (getD_at h hd)
      refine ⟨w, Sk, Sr ++ So, ⟨b, us, i1, .inr j1, k1⟩, k2, fun a => ?_, fun a ha hb => ?_, fun H' a d' Sd' of ha r' ap => ?_⟩
      · rw [i3, List.mem_append, k3, or_assoc]
      · rcases List.mem_append.mp hb with z | z
        · exact k4 a ha z
        · exact i4 a ((k3 a).mpr (.inl ha)) z
      · have hab : b ≠ a := fun e => of.tup us (by rw [← e]; exact j1)
        have haSr : a ∉ Sr := fun z => ha (List.mem_append_left _ z)
        have haSo : a ∉ So := fun z => ha (List.mem_append_right _ z)
        obtain ⟨S2, q1, q2⟩ := k5 F H' d' Sd' (fun e u U re hu => rep_off of e re fun z => haSr (hu a z)) r' fun c hc hd => ap c hc (List.mem_append_left _ hd)
        obtain ⟨S3, q3, q4⟩ := i5 H' a (.tup (ds.set k d')) S2 of haSo (by
          simp only [Rep]
          exact ⟨b, us, rfl, of.keep _ _ hab j1, q1⟩) fun c hc hd => by
            rcases (q2 c).mp hc with y | y
            · exact ap c y (List.mem_append_right _ hd)
            · exact i4 c ((k3 c).mpr (.inr y)) hd
        refine ⟨S3, ?_, fun c => ?_⟩
        · simp only [setP, hg]
          exact q3
        · rw [q4, List.mem_append, q2, or_assoc]
    · exact absurd h.symm hd

/-- a list with one owner, at a place: where it stands, and how it is changed -/
theorem Rs.own (R : Rs K n FB HB F H σ δ ws T) {p : Pl} {ds : List D} (h : ownAt δ p = .ok ds) : ∃ a us, ∃ Sn So U : List Addr, PlV H σ p (.ref a) ∧ H a = some (.lst us) ∧ us.length = ds.length ∧ Reps K F H ds us Sn ∧ Reps K F H T ws U ∧
    (∀ b, b ∈ Sn → b ≠ a ∧ b ∉ So ∧ b ∉ U) ∧ (∀ b, b ∈ U → b ≠ a ∧ b ∉ So) ∧ Fresh HB Sn ∧ Fresh HB U ∧
    ∀ ds' us' ws' T' Sn' U', Reps K F H ds' us' Sn' → Reps K F H T' ws' U' → (∀ b, b ∈ Sn' → b ≠ a ∧ b ∉ So ∧ b ∉ U') → (∀ b, b ∈ U' → b ≠ a ∧ b ∉ So) → Fresh HB Sn' → Fresh HB U' →
      Rs K n FB HB F (upd H a (.lst us')) σ (setP δ p (.lst .own ds')) ws' T' := by
  have hg : getP δ p = .lst .own ds := by
    unfold ownAt at h
    split at h
    · rename_i e; cases h; exact e
    · cases h
  obtain ⟨vs, S, U, hl, hv, r1, r2, f1, f2, ap⟩ := R.apart
  obtain ⟨v, Sd, So, i1, i2, i3, i4, i5⟩ := path_focus hl R.dl hv r1 p hg (fun z => nomatch z)
  simp only [Rep] at i2
  obtain ⟨a, us, Sn, rfl, j1, j2, j3, j4, rfl⟩ := i2
  have ha : a ∉ So := i4 a List.mem_cons_self
  have haH : HB a = none := f1 a ((i3 a).mpr (.inl List.mem_cons_self))
  have haU : a ∉ U := ap a ((i3 a).mpr (.inl List.mem_cons_self))
  refine ⟨a, us, Sn, So, U, i1, j1, reps_len j3, j3, r2, fun b hb => ⟨fun e => j4 (by rw [← e]; exact hb), i4 b (List.mem_cons_of_mem _ hb), ap b ((i3 b).mpr (.inl (List.mem_cons_of_mem _ hb)))⟩,
    fun b hb => ⟨fun e => haU (by rw [← e]; exact hb), fun z => ap b ((i3 b).mpr (.inr z)) hb⟩, fun b hb => f1 b ((i3 b).mpr (.inl (List.mem_cons_of_mem _ hb))), f2, fun ds' us' ws' T' Sn' U' g1 g2 g3 g4 g5 g6 => ?_⟩
  have of := off_upd (o := .lst us') j1
  obtain ⟨S', q1, q2⟩ := i5 (upd H a (.lst us')) a (.lst .own ds') (a :: Sn') of ha (by
    simp only [Rep]
    exact ⟨a, us', Sn', rfl, upd_same, j2, reps_off of _ g1 fun z => (g3 a z).1 rfl, fun z => (g3 a z).1 rfl, rfl⟩) fun b hb => by
      rcases List.mem_cons.mp hb with z | z
      · subst z; exact ha
      · exact (g3 b z).2.1
  have exu : Ext FB.f HB F (upd H a (.lst us')) := ext_mod R.ex haH j2
  refine .join exu R.sl ?_ hl (fun i hi => ?_) q1 (reps_off of _ g2 fun z => (g4 a z).1 rfl) (fun b hb => ?_) g6 fun b hb hc => ?_
  · rw [← reps_len q1]; exact hl
  · -- a slot that was set to nothing known stays so
    have key : ∀ (p : Pl) (d : D) (i : Nat), getP δ p ≠ .any → getD' δ i = .any → getD' (setP δ p d) i = .any := by
      intro p
      induction p with
      | nm j =>
        intro d i hp hi
        show getD' (δ.set j d) i = .any
        by_cases hj : j < δ.length
        · rw [getD_set hj]
          by_cases e : j = i
          · subst e; exact absurd hi hp
          · rw [if_neg e]; exact hi
        · rw [List.set_eq_of_length_le (by omega)]; exact hi
      | ix p k ih =>
        intro d i hp hi
        simp only [getP] at hp
        simp only [setP]
        split
        · rename_i e; exact ih _ i (by rw [e]; exact fun z => nomatch z) hi
        · rename_i e; exact ih _ i (by rw [e]; exact fun z => nomatch z) hi
        · exact hi
    rcases hv i hi with z | z
    · exact .inl (key p _ i (by rw [hg]; exact fun z => nomatch z) z)
    · exact .inr z
  · rcases (q2 b).mp hb with z | z
    · rcases List.mem_cons.mp z with z | z
      · subst z; exact haH
      · exact g5 b z
    · exact f1 b ((i3 b).mpr (.inr z))
  · rcases (q2 b).mp hb with z | z
    · rcases List.mem_cons.mp z with z | z
      · subst z; exact (g4 b hc).1 rfl
      · exact (g3 b z).2.2 hc
    · exact (g4 b hc).2 z
end
end Mn

/-! MnI: a statement's expressions, sources of loops, targets. -/
namespace Mn
open PySem PySem.Spec L2
open PyProof.Rows hiding St

def Kg {α : Type} (XW : XWt) (HB : Hp) (r : R α) (P : α → Prop) : Prop := match r with
  | .ok a => P a
  | .exc c => ∀ H', Same HB H' → XW c H'
  | .bad => False
theorem kg_bind {α β : Type} {XW : XWt} {HB H : Hp} {r : R α} {f : α → R β} {P : β → Prop} {G : α → Prop} (h : Kg XW HB (r >>= f) P) (e : Same HB H) (k : ∀ d, r = .ok d → Kg XW HB (f d) P → G d) : Kg XW H r G := by
  cases r with
  | ok d => exact k d rfl h
  | exc c => exact fun H' s => h H' (e.trans s)
  | bad => exact h
theorem kg_mono {α : Type} {XW : XWt} {HB : Hp} {r : R α} {P G : α → Prop} (h : Kg XW HB r P) (k : ∀ a, P a → G a) : Kg XW HB r G := by
  cases r with
  | ok d => exact k d h
  | exc c => exact h
  | bad => exact h

def mtp (T : Tab) (sc : Scope) : Pl → Expr → Bool
  | .nm i, .Name x _ => decide (T.N[i]? = some x) && visB sc x && okNm x
  | .ix p k, .Subscript e (.Constant (.int j) _ _) _ => decide (j = (k : Nat)) && mtp T sc p e
  | _, _ => false
/-- the look at an expression at the top of a statement -/
def mtT (T : Tab) : M → Scope → Wh → Bool
  | .mv i, sc, .ex (.Name x _) => decide (T.N[i]? = some x) && visB sc x && okNm x
  | .tup es, sc, .ex (.Tuple xs _ _) => mtT T es sc (.es xs)
  | .nil, _, .es [] => true
  | .cons a as, sc, .es (e :: es) => notStar e && mtT T a sc (.ex e) && mtT T as sc (.es es)
  | .mv _, _, _ => false
  | .mvT i, sc, .ex (.Subscript x (.Slice (some (.Constant (.int j) _ _)) none none _) _) => decide (j = 1) && mtp T sc (.nm i) x
  | .mvT _, _, _ => false
  | .tup _, _, _ => false
  | .nil, _, _ => false
  | .cons _ _, _, _ => false
  | .keep a, sc, .ex e => mt T a sc (.ex e)
  | .keep _, _, _ => false
  | .thaw a, sc, .ex e => mt T a sc (.ex e)
  | .thaw _, _, _ => false
  | m, sc, .ex e => mt T m sc (.ex e)
  | _, _, _ => false

section
variable (K : PySem.W.Frag) (n : Nat) (Φ : Fn) (γ : Gn) (XW : XWs) (FB : Bs) (HB : Hp)
def tX (m : M) : TE := fun σ H Q => ∃ F δ ws T, Rs K n FB HB F H σ δ ws T ∧ Kg (fun c => XW c σ) H (evX Φ γ m δ) fun y => ∀ v F' H', Same H H' → Rs K n FB HB F' H' σ y.2 (v :: ws) (y.1 :: T) → Q v H'
def tK (m : M) : TE := fun σ H Q => ∃ F δ ws T, Rs K n FB HB F H σ δ ws T ∧ Kg (fun c => XW c σ) H (evK Φ γ m δ) fun y => ∀ v F' H', Same H H' → Rs K n FB HB F' H' σ y.2 (v :: ws) (y.1 :: T) → Q v H'
def tO (m : M) : TE := fun σ H Q => ∃ F δ ws T, Rs K n FB HB F H σ δ ws T ∧ Kg (fun c => XW c σ) H (evO Φ γ m δ) fun y => ∀ v F' H', Same H H' → Rs K n FB HB F' H' σ y.2 (v :: ws) (y.1 :: T) → Q v H'
def tM (m : M) : TE := fun σ H Q => ∃ F δ ws T, Rs K n FB HB F H σ δ ws T ∧ Kg (fun c => XW c σ) H (evT Φ γ m δ) fun y => ∀ v F' H', Same H H' → Rs K n FB HB F' H' σ y.2 (v :: ws) (y.1 :: T) → Q v H'
def tML (m : M) : TA := fun σ H Q => ∃ F δ ws T, Rs K n FB HB F H σ δ ws T ∧ Kg (fun c => XW c σ) H (evT Φ γ m δ) fun y => ∃ l, y.1 = .tup l ∧ ∀ us F' H', us.length = l.length → Same H H' → Rs K n FB HB F' H' σ y.2 (us ++ ws) (l ++ T) → Q us H'
/-- a test: nothing is held behind it -/
def tC' (m : M) : TT := fun σ H Q => ∃ F δ ws T, Rs K n FB HB F H σ δ ws T ∧ Kg (fun c => XW c σ) H (ev Φ γ m (D.frzs δ)) fun d => ∃ b, d = .bl b ∧ ∀ H', Same H H' → Rs K n FB HB F H' σ δ ws T → Q b H'
/-- a whole number: nothing is held behind it -/
def tN (m : M) : TE := fun σ H Q => ∃ F δ ws T, Rs K n FB HB F H σ δ ws T ∧ Kg (fun c => XW c σ) H (ev Φ γ m (D.frzs δ)) fun d => ∃ i, d = .int i ∧ ∀ H', Same H H' → Rs K n FB HB F H' σ δ ws T → Q (.int i) H'
end
section
variable {K : PySem.W.Frag} {n : Nat} {Φ : Fn} {γ : Gn} {XW : XWs} {FB : Bs} {HB : Hp}
theorem tX_tE {m : M} {σ : St} {H : Hp} {Q : VK} (h : tX K n Φ γ XW FB HB m σ H Q) : tE K n Φ γ XW m σ H Q := by
  obtain ⟨F, δ, ws, T, R, k⟩ := h
  obtain ⟨Fv, ex, E, v1, v2, v3⟩ := R.view m.uses
  refine ⟨Fv, D.frzs δ, E, ?_⟩
  unfold evX at k
  cases e : ev Φ γ m (D.frzs δ) with
  | ok d =>
    rw [e] at k
    intro v F' H' S e' r f
    have k' : Kg _ H (if d.pur = true then Mn.R.ok (d, δ) else Mn.R.ok (d, frzU m.uses 0 δ)) _ := k
    split at k'
    · rename_i hp
      exact k' v F H' e'.h (v1 F' H' d v S e' r f hp)
    · exact k' v F' H' e'.h (v2 F' H' d v S e' r f)
  | exc c =>
    rw [e] at k
    exact fun H' s => k H' s
  | bad => rw [e] at k; exact k.elim
def tCX (K : PySem.W.Frag) (n : Nat) (Φ : Fn) (γ : Gn) (XW : XWs) (FB : Bs) (HB : Hp) (m : M) : TE := fun σ H Q => ∃ F δ ws T, Rs K n FB HB F H σ δ ws T ∧ Kg (fun c => XW c σ) H (evCX Φ γ m δ) fun y => ∀ v F' H', Same H H' → Rs K n FB HB F' H' σ y.2 (v :: ws) (y.1 :: T) → Q v H'
theorem tCX_tC {m : M} {σ : St} {H : Hp} {Q : VK} (h : tCX K n Φ γ XW FB HB m σ H Q) : tC K n Φ γ XW m σ H Q := by
  obtain ⟨F, δ, ws, T, R, k⟩ := h
  obtain ⟨Fv, ex, E, v1, v2, v3⟩ := R.view m.uses
  refine ⟨Fv, D.frzs δ, E, ?_⟩
  unfold evCX at k
  cases e : evC Φ γ m (D.frzs δ) with
  | ok d =>
    rw [e] at k
    intro v F' H' S e' r f
    have k' : Kg _ H (if d.pur = true then Mn.R.ok (d, δ) else Mn.R.ok (d, frzU m.uses 0 δ)) _ := k
    split at k'
    · rename_i hp
      exact k' v F H' e'.h (v1 F' H' d v S e' r f hp)
    · exact k' v F' H' e'.h (v2 F' H' d v S e' r f)
  | exc c =>
    rw [e] at k
    exact fun H' s => k H' s
  | bad => rw [e] at k; exact k.elim
theorem tK_tE {m : M} {σ : St} {H : Hp} {Q : VK} (h : tK K n Φ γ XW FB HB m σ H Q) : tE K n Φ γ XW m σ H Q := by
  obtain ⟨F, δ, ws, T, R, k⟩ := h
  unfold evK at k
  cases e : ev Φ γ m (D.frzs δ) with
  | ok d =>
    rw [e] at k
    have k' : Kg _ H (if d.pur = true then Mn.R.ok (d, δ) else Mn.R.ok (d, frzU (m.uses.filter fun i => !awayD d (δ.getD i .any)) 0 δ)) _ := k
    split at k'
    · rename_i hp
      obtain ⟨Fv, ex, E, v1, v2, v3⟩ := R.view m.uses
      refine ⟨Fv, D.frzs δ, E, ?_⟩
      rw [e]
      intro v F' H' S e' r f
      exact k' v F H' e'.h (v1 F' H' d v S e' r f hp)
    · obtain ⟨Fv, ex, E, v2⟩ := R.view2 m.uses (m.uses.filter fun i => !awayD d (δ.getD i .any)) (fun i hi => (List.mem_filter.mp hi).1)
      refine ⟨Fv, D.frzs δ, E, ?_⟩
      rw [e]
      intro v F' H' S e' r f
      obtain ⟨F2, R2⟩ := v2 F' H' d v S e' r f fun i h1 h2 => by
        have : ¬ ((!awayD d (δ.getD i .any)) = true) := fun z => h2 (List.mem_filter.mpr ⟨h1, z⟩)
        show awayD d (δ.getD i .any) = true
        cases hz : awayD d (δ.getD i .any) with
        | true => rfl
        | false => rw [hz] at this; exact absurd rfl this
      exact k' v F2 H' e'.h R2
  | exc c =>
    obtain ⟨Fv, ex, E, v1, v2, v3⟩ := R.view m.uses
    refine ⟨Fv, D.frzs δ, E, ?_⟩
    rw [e] at k ⊢
    exact fun H' s => k H' s
  | bad => rw [e] at k; exact k.elim
theorem tO_tE {m : M} {σ : St} {H : Hp} {Q : VK} (h : tO K n Φ γ XW FB HB m σ H Q) : tE K n Φ γ XW m σ H Q := by
  obtain ⟨F, δ, ws, T, R, k⟩ := h
  unfold evO at k
  obtain ⟨Fv, E, v1, v2⟩ := R.viewO m.uses
  refine ⟨Fv, vuO δ, E, ?_⟩
  cases e : ev Φ γ m (vuO δ) with
  | ok d =>
    rw [e] at k
    have k' : Kg _ H (if d.pur = true then Mn.R.ok (d, δ) else if sepD d = true then Mn.R.ok (d.thaw, anyU m.uses 0 δ) else .bad) _ := k
    intro v F' H' S e' r f
    split at k'
    · rename_i hp
      exact k' v F H' e'.h (v1 F' H' d v S e' r f hp)
    · split at k'
      · rename_i hp
        exact k' v F H' e'.h (v2 F' H' d v S e' r f hp)
      · exact k'.elim
  | exc c =>
    rw [e] at k
    exact fun H' s => k H' s
  | bad => rw [e] at k; exact k.elim
theorem tC_tT {m : M} {σ : St} {H : Hp} {Q : Bool → Hp → Prop} (h : tC' K n Φ γ XW FB HB m σ H Q) : tT K n Φ γ XW m σ H Q := by
  obtain ⟨F, δ, ws, T, R, k⟩ := h
  obtain ⟨Fv, ex, E, v1, v2, v3⟩ := R.view m.uses
  refine ⟨Fv, D.frzs δ, E, ?_⟩
  show Kx _ H (ev Φ γ m (D.frzs δ)) _
  cases e : ev Φ γ m (D.frzs δ) with
  | ok d =>
    rw [e] at k
    obtain ⟨b, rfl, q⟩ := k
    exact ⟨b, rfl, fun F' H' e' => q H' e'.h (v3 F' H' e')⟩
  | exc c =>
    rw [e] at k
    exact fun H' s => k H' s
  | bad => rw [e] at k; exact k.elim
theorem tN_tE {m : M} {σ : St} {H : Hp} {Q : VK} (h : tN K n Φ γ XW FB HB m σ H Q) : tE K n Φ γ XW m σ H Q := by
  obtain ⟨F, δ, ws, T, R, k⟩ := h
  obtain ⟨Fv, ex, E, v1, v2, v3⟩ := R.view m.uses
  refine ⟨Fv, D.frzs δ, E, ?_⟩
  cases e : ev Φ γ m (D.frzs δ) with
  | ok d =>
    rw [e] at k
    obtain ⟨i, rfl, q⟩ := k
    intro v F' H' S e' r f
    obtain ⟨rfl, _⟩ := rep_int r
    exact q H' e'.h (v3 F' H' e')
  | exc c =>
    rw [e] at k
    exact fun H' s => k H' s
  | bad => rw [e] at k; exact k.elim
end

section
variable {T : Tab} {Φ : Fn} {γ : Gn} {XW : XWs} {sc : Scope} {X : Cx} {FB : Bs} {HB : Hp}
theorem mtT_ns {as : M} {l : List Expr} (h : mtT T as sc (.es l) = true) : ∀ e, e ∈ l → notStar e = true := by
  induction l generalizing as with
  | nil => exact fun e he => nomatch he
  | cons e es ih =>
    cases as <;> first | (simp [mtT] at h; done) | skip
    rename_i a as
    simp only [mtT, Bool.and_eq_true] at h
    intro x hx
    rcases List.mem_cons.mp hx with rfl | hx
    · exact h.1.1
    · exact ih h.2 x hx
theorem pt_dfl (C : Cok T Φ γ XW sc X) {m : M} (h1 : ∀ δ, evT Φ γ m δ = evX Φ γ m δ) (h2 : ∀ e, mtT T m sc (.ex e) = true → mt T m sc (.ex e) = true) (h3 : ∀ l, mtT T m sc (.es l) = false) :
    (∀ e, mtT T m sc (.ex e) = true → PE X e (tM X.K T.N.length Φ γ XW FB HB m)) ∧ (∀ l, mtT T m sc (.es l) = true → PA X l (tML X.K T.N.length Φ γ XW FB HB m)) := by
  refine ⟨fun e h => ((pp_all m).pe C (h2 e h)).of fun σ H Q ⟨F, δ, ws, Tm, R, k⟩ => tX_tE ⟨F, δ, ws, Tm, R, ?_⟩, fun l h => by rw [h3] at h; cases h⟩
  rw [← h1]
  exact k
/-- every expression at the top of a statement -/
theorem pt_all (C : Cok T Φ γ XW sc X) : ∀ (m : M), (∀ e, mtT T m sc (.ex e) = true → PE X e (tM X.K T.N.length Φ γ XW FB HB m)) ∧ (∀ l, mtT T m sc (.es l) = true → PA X l (tML X.K T.N.length Φ γ XW FB HB m)) := by
  intro m
  induction m with
  | mvT i =>
    refine ⟨fun e h => ?_, fun l h => by simp [mtT] at h⟩
    cases e <;> first | (simp [mtT] at h; done) | skip
    rename_i x sl pos
    cases sl <;> first | (simp [mtT] at h; done) | skip
    rename_i lo hi st p3
    rcases lo with _ | lo <;> first | (simp [mtT] at h; done) | skip
    cases lo <;> first | (simp [mtT] at h; done) | skip
    rename_i c kk p4
    cases c <;> first | (simp [mtT] at h; done) | skip
    rename_i j
    rcases hi with _ | hi <;> first | (simp [mtT] at h; done) | skip
    rcases st with _ | st <;> first | (simp [mtT] at h; done) | skip
    simp only [mtT, Bool.and_eq_true, decide_eq_true_eq] at h
    obtain ⟨rfl, h⟩ := h
    cases x <;> first | (simp [mtp] at h; done) | skip
    rename_i x px
    simp only [mtp, Bool.and_eq_true, decide_eq_true_eq] at h
    have pv : PE X (.Name x px) (fun σ H Q => ∃ v, σ[i]? = some (some v) ∧ Q v H) := (pe_var (i := i) (by rw [C.nN]; exact h.1.1) (C.vis h.1.2) (okNm_1 h.2) (okNm_2 h.2)).of fun σ H Q ⟨v, h1, h2⟩ => ⟨v, h1, h2⟩
    refine (pe_slice sl_tup pv (po_some pe_int) po_none).of fun σ H Q ⟨F, δ, ws, Tm, R, k⟩ => ?_
    simp only [evT] at k
    cases eg : getD' δ i <;> first | (rw [eg] at k; exact k.elim) | skip
    rename_i dd
    rcases dd with _ | ⟨d, ds⟩
    · rw [eg] at k; exact k.elim
    rw [eg] at k
    obtain ⟨v, h1, R1⟩ := R.take eg (fun z => nomatch z)
    obtain ⟨a, us, rfl, h2, h3, R2⟩ := Rs.untup R1
    rcases us with _ | ⟨u, us⟩
    · simp at h3
    have R3 : Rs X.K T.N.length FB HB F H σ (δ.set i .any) (us ++ ws) (ds ++ Tm) := Rs.drop (v := u) (d := d) (by simpa using R2)
    refine ⟨.ref a, h1, ?_⟩
    refine ⟨1, rfl, a, u :: us, rfl, .of h2, ?_, fun p hp => ?_⟩
    · intro z
      have := z.1
      simp [HT.sIx] at this
      try omega
    · have ec : cutV (u :: us) (some 1) none = us := by
        unfold cutV
        have e1 : HT.sIx (u :: us).length 0 (some 1) = 1 := by
          simp [HT.sIx]
          try omega
        have e2 : HT.sIx (u :: us).length (u :: us).length none = (u :: us).length := by simp [HT.sIx]
        rw [e1, e2]
        simp
      rw [ec]
      exact k (.ref p) F _ (same_new hp) (R3.tup (by simpa using h3) hp)
  | mv i =>
    refine ⟨fun e h => ?_, fun l h => by simp [mtT] at h⟩
    cases e <;> first | (simp [mtT] at h; done) | skip
    rename_i x pos
    simp only [mtT, Bool.and_eq_true, decide_eq_true_eq] at h
    refine (pe_var (i := i) (by rw [C.nN]; exact h.1.1) (C.vis h.1.2) (okNm_1 h.2) (okNm_2 h.2)).of fun σ H Q ⟨F, δ, ws, Tm, R, k⟩ => ?_
    simp only [evT] at k
    by_cases hd : getD' δ i = .any
    · rw [hd] at k; exact k.elim
    · rw [rd_of hd] at k
      obtain ⟨v, h1, h2⟩ := R.take rfl hd
      exact ⟨v, h1, k v F H (.refl _) h2⟩
  | nil =>
    refine ⟨fun e h => by simp [mtT] at h, fun l h => ?_⟩
    cases l with
    | cons => simp [mtT] at h
    | nil =>
      refine pa_nil.of fun σ H Q ⟨F, δ, ws, Tm, R, k⟩ => ?_
      simp only [evT] at k
      obtain ⟨l, e, q⟩ := k
      cases e
      exact q [] F H rfl (.refl _) R
  | cons a b ia ib =>
    refine ⟨fun e h => by simp [mtT] at h, fun l h => ?_⟩
    cases l with
    | nil => simp [mtT] at h
    | cons e es =>
      simp only [mtT, Bool.and_eq_true] at h
      refine (pa_cons (ia.1 e h.1.2) (ib.2 es h.2) (star_cons h.1.1)).of fun σ H Q ⟨F, δ, ws, Tm, R, k⟩ => ?_
      simp only [evT] at k
      refine ⟨F, δ, ws, Tm, R, kg_bind k (.refl _) fun y hy k1 v F1 H1 sm1 R1 => ?_⟩
      refine ⟨F1, y.2, v :: ws, y.1 :: Tm, R1, kg_bind k1 sm1 fun z hz k2 => ?_⟩
      obtain ⟨z1, z2⟩ := z
      cases z1 <;> first | exact k2.elim | skip
      rename_i l
      refine ⟨l, rfl, fun us F2 H2 hl sm2 R2 => ?_⟩
      obtain ⟨l', e', q⟩ := k2
      cases e'
      exact q (v :: us) F2 H2 (by simp [hl]) (sm1.trans sm2) (R2.swap hl)
  | tup a ia =>
    refine ⟨fun e h => ?_, fun l h => by simp [mtT] at h⟩
    cases e <;> first | (simp [mtT] at h; done) | skip
    simp only [mtT] at h
    refine (pe_tup (ia.2 _ h)).of fun σ H Q ⟨F, δ, ws, Tm, R, k⟩ => ?_
    simp only [evT] at k
    refine ⟨F, δ, ws, Tm, R, kg_bind k (.refl _) fun z hz k2 => ?_⟩
    obtain ⟨z1, z2⟩ := z
    cases z1 <;> first | exact k2.elim | skip
    rename_i l
    have k3 : Kg _ H (if l.length ≤ LIM then Mn.R.ok (D.tup l, z2) else Mn.R.bad) _ := k2
    split at k3
    · rename_i hz
      refine ⟨l, rfl, fun us F2 H2 hl sm2 R2 => ⟨by rw [hl]; exact hz, fun p hp => k3 _ F2 _ (sm2.trans (same_new hp)) (R2.tup hl hp)⟩⟩
    · exact k3.elim
  | keep a ia =>
    refine ⟨fun e h => ((pp_all a).pe C (by simpa only [mtT] using h)).of fun σ H Q ⟨F, δ, ws, Tm, R, k⟩ => tK_tE ⟨F, δ, ws, Tm, R, ?_⟩, fun l h => by simp [mtT] at h⟩
    simp only [evT] at k
    exact k
  | thaw a ia =>
    refine ⟨fun e h => ((pp_all a).pe C (by simpa only [mtT] using h)).of fun σ H Q ⟨F, δ, ws, Tm, R, k⟩ => tO_tE ⟨F, δ, ws, Tm, R, ?_⟩, fun l h => by simp [mtT] at h⟩
    simp only [evT] at k
    exact k
  | _ => exact pt_dfl C (fun δ => by simp only [evT]) (fun e h => by simpa only [mtT] using h) (fun l => by simp [mtT])

/-! ### targets -/
theorem asg_own {K : PySem.W.Frag} {n : Nat} {F H : Hp} : ∀ (tg : Tg) {ds : List D} {vs : List V} {σ : St} {δ δ' : List D} {ws : List V} {Tm : List D}, asg false tg ds δ = .ok δ' → (∀ i, i ∈ tg.slots → FB.pn i = none) → vs.length = ds.length → Rs K n FB HB F H σ δ (vs ++ ws) (ds ++ Tm) →
    ∀ Q : St → Hp → Prop, (∀ σ', Rs K n FB HB F H σ' δ' ws Tm → Q σ' H) → gA K tg vs σ H Q := by
  intro tg
  induction tg with
  | nm i =>
    intro ds vs σ δ δ' ws Tm h hp hl R Q q
    cases ds with
    | nil => simp [asg] at h
    | cons d ds => cases ds with
      | cons => simp [asg] at h
      | nil =>
        simp only [asg] at h
        cases h
        rcases vs with _ | ⟨v, _ | ⟨v2, vs⟩⟩ <;> first | (simp at hl; done) | skip
        exact ⟨v, rfl, q _ (R.put i (hp i (by simp [Tg.slots])))⟩
  | tup ts ih =>
    intro ds vs σ δ δ' ws Tm h hp hl R Q q
    cases ds with
    | nil => simp [asg] at h
    | cons d ds => cases ds with
      | cons => simp [asg] at h
      | nil =>
        cases d <;> first | (simp [asg] at h; done) | skip
        · rename_i ds
          simp only [asg] at h
          rcases vs with _ | ⟨v, _ | ⟨v2, vs⟩⟩ <;> first | (simp at hl; done) | skip
          obtain ⟨a, us, rfl, h1, h2, R2⟩ := Rs.untup (ws := ws) (T := Tm) R
          exact ⟨_, rfl, .inl ⟨a, us, rfl, .of h1, by rw [h2]; exact asg_len ts h, ih h (fun i hi => hp i (by simpa [Tg.slots] using hi)) h2 R2 Q q⟩⟩
        · rename_i kk ds
          simp only [asg] at h
          rcases vs with _ | ⟨v, _ | ⟨v2, vs⟩⟩ <;> first | (simp at hl; done) | skip
          obtain ⟨a, us, rfl, h1, h2, R2⟩ := Rs.unlst (ws := ws) (T := Tm) R
          exact ⟨_, rfl, .inr ⟨a, us, rfl, h1, by rw [h2]; exact asg_len ts h, ih h (fun i hi => hp i (by simpa [Tg.slots] using hi)) h2 R2 Q q⟩⟩
  | nil =>
    intro ds vs σ δ δ' ws Tm h hp hl R Q q
    cases ds with
    | cons => simp [asg] at h
    | nil =>
      simp only [asg] at h
      cases h
      cases vs with
      | cons => simp at hl
      | nil => exact ⟨rfl, q _ R⟩
  | cons t ts i1 i2 =>
    intro ds vs σ δ δ' ws Tm h hp hl R Q q
    cases ds with
    | nil => simp [asg] at h
    | cons d ds =>
      cases vs with
      | nil => simp at hl
      | cons v vs =>
        simp only [asg] at h
        cases e : asg false t [d] δ with
        | ok δ1 =>
          rw [e] at h
          exact ⟨v, vs, rfl, i1 (ws := vs ++ ws) (Tm := ds ++ Tm) e (fun i hi => hp i (by simp [Tg.slots, hi])) rfl R _ fun σ1 R1 => i2 h (fun i hi => hp i (by simp [Tg.slots, hi])) (by simpa using hl) R1 Q q⟩
        | exc c => rw [e] at h; cases h
        | bad => rw [e] at h; cases h

/-! ### places, by expressions -/
def tPl (p : Pl) : TE := fun σ H Q => ∃ v, PlV H σ p v ∧ Q v H
theorem pl_ok (C : Cok T Φ γ XW sc X) : ∀ (p : Pl) {e : Expr}, mtp T sc p e = true → PE X e (tPl p)
  | .nm i, e, h => by
    cases e <;> first | (simp [mtp] at h; done) | skip
    rename_i x pos
    simp only [mtp, Bool.and_eq_true, decide_eq_true_eq] at h
    exact (pe_var (i := i) (by rw [C.nN]; exact h.1.1) (C.vis h.1.2) (okNm_1 h.2) (okNm_2 h.2)).of fun σ H Q ⟨v, h1, h2⟩ => ⟨v, h1, h2⟩
  | .ix p k, e, h => by
    cases e <;> first | (simp [mtp] at h; done) | skip
    rename_i x y pos
    cases y <;> first | (simp [mtp] at h; done) | skip
    rename_i c j p2
    cases c <;> first | (simp [mtp] at h; done) | skip
    simp only [mtp, Bool.and_eq_true, decide_eq_true_eq] at h
    obtain ⟨rfl, h⟩ := h
    refine (pe_ix (ix_list.or ix_tup) (pl_ok C p h) pe_int (fun _ _ => rfl)).of fun σ H Q ⟨v, ⟨b, us, h1, h2, h3⟩, q⟩ => ?_
    refine ⟨.ref b, h1, ?_⟩
    rcases h2 with h2 | h2
    · exact .inl ⟨b, us, _, v, rfl, rfl, .of h2, atI_nat h3, q⟩
    · exact .inr ⟨b, us, _, v, rfl, rfl, .of h2, atI_nat h3, q⟩
theorem mtp_base {p : Pl} {e : Expr} (h : mtp T sc p e = true) (nm : Str) (env : Env) : attributeBase e nm env (eval e env) = eval e env := by
  cases e <;> first | rfl | skip
  cases p <;> simp [mtp] at h
end
end Mn

/-! MnJ: what a loop's source yields. -/
namespace Mn
open PySem PySem.Spec L2
open PyProof.Rows hiding St

section
variable {K : PySem.W.Frag} {n : Nat} {FB : Bs} {HB F H : Hp} {σ : St} {δ : List D} {ws : List V} {T : List D}
theorem anys_set (i : Nat) (ds : List D) (h : i < ds.length) : (anys i ++ ds.drop i).set i .any = anys (i + 1) ++ ds.drop (i + 1) := by
  have hl : (anys i).length = i := by simp [anys]
  rw [List.set_append_right _ _ (by omega), hl, Nat.sub_self, List.drop_eq_getElem_cons h, List.set_cons_zero]
  show anys i ++ (.any :: ds.drop (i + 1)) = List.replicate (i + 1) .any ++ ds.drop (i + 1)
  rw [List.replicate_succ', List.append_assoc]
  rfl
theorem anys_get (i : Nat) (ds : List D) {d : D} (h : ds[i]? = some d) : (anys i ++ ds.drop i)[i]? = some d := by
  have hl : (anys i).length = i := by simp [anys]
  rw [List.getElem?_append_right (by omega), hl, Nat.sub_self, List.getElem?_drop]
  simpa using h
theorem anys_len (i : Nat) (ds : List D) (h : i ≤ ds.length) : (anys i ++ ds.drop i).length = ds.length := by simp [anys]; omega
/-- an item of the list on top is taken -/
theorem Rs.pick {p : Addr} {ds : List D} (R : Rs K n FB HB F H σ δ (.ref p :: ws) (.lst .own ds :: T)) {i : Nat} {d : D} (h : ds[i]? = some d) : ∃ us v, H p = some (.lst us) ∧ us.length = ds.length ∧ us[i]? = some v ∧ Rs K n FB HB F H σ δ (v :: .ref p :: ws) (d :: .lst .own (ds.set i .any) :: T) := by
  obtain ⟨vs, S, U, hl, hv, r1, r2, f1, f2, ap⟩ := R.apart
  obtain ⟨v', vr, S1, S2, e, h1, h2, h3, rfl⟩ := reps_uncons r2
  cases e
  simp only [Rep] at h1
  obtain ⟨a, us, S', e, j1, j2, j3, j4, rfl⟩ := h1
  cases e
  obtain ⟨v, Sk, So, k1, k2, k3, k4, k5⟩ := reps_focus j3 h
  obtain ⟨S3, q1, q2⟩ := k5 F H .any [] (fun e u U r _ => r) (by simp only [Rep]) (fun a ha => nomatch ha)
  have q3 : ∀ a, a ∈ S3 → a ∈ So := fun a ha => ((q2 a).mp ha).elim (fun z => nomatch z) id
  have nS3 : p ∉ S3 := fun z => j4 ((k3 p).mpr (.inr (q3 p z)))
  have r3 : Rep K F H (.lst .own (ds.set i .any)) (.ref p) (p :: S3) := by
    simp only [Rep]
    exact ⟨p, us, S3, rfl, j1, j2, q1, nS3, rfl⟩
  refine ⟨us, v, j1, reps_len j3, k1, .join R.ex R.sl R.dl hl hv r1 (reps_cons k2 (reps_cons r3 h2 fun a ha hb => ?_) fun a ha hb => ?_) f1 (fun a ha => ?_) fun a ha hb => ?_⟩
  · rcases List.mem_cons.mp ha with rfl | z
    · exact h3 _ List.mem_cons_self hb
    · exact h3 a (List.mem_cons_of_mem _ ((k3 a).mpr (.inr (q3 a z)))) hb
  · have ha' : a ∈ S' := (k3 a).mpr (.inl ha)
    rcases List.mem_append.mp hb with z | z
    · rcases List.mem_cons.mp z with rfl | z
      · exact j4 ha'
      · exact k4 a ha (q3 a z)
    · exact h3 a (List.mem_cons_of_mem _ ha') z
  · refine f2 a ?_
    simp only [List.mem_append, List.mem_cons] at ha ⊢
    rcases ha with z | (rfl | z) | z
    · exact .inl (.inr ((k3 a).mpr (.inl z)))
    · exact .inl (.inl rfl)
    · exact .inl (.inr ((k3 a).mpr (.inr (q3 a z))))
    · exact .inr z
  · refine ap a ha ?_
    simp only [List.mem_append, List.mem_cons] at hb ⊢
    rcases hb with z | (rfl | z) | z
    · exact .inl (.inr ((k3 a).mpr (.inl z)))
    · exact .inl (.inl rfl)
    · exact .inl (.inr ((k3 a).mpr (.inr (q3 a z))))
    · exact .inr z
/-- .. of the tuple on top -/
theorem Rs.pickT {p : Addr} {ds : List D} (R : Rs K n FB HB F H σ δ (.ref p :: ws) (.tup ds :: T)) {i : Nat} {d : D} (h : ds[i]? = some d) : ∃ us v, H p = some (.tup us) ∧ us.length = ds.length ∧ us[i]? = some v ∧ Rs K n FB HB F H σ δ (v :: .ref p :: ws) (d :: .tup (ds.set i .any) :: T) := by
  obtain ⟨vs, S, U, hl, hv, r1, r2, f1, f2, ap⟩ := R.apart
  obtain ⟨v', vr, S1, S2, e, h1, h2, h3, rfl⟩ := reps_uncons r2
  cases e
  obtain ⟨a, us, e, j1, j3⟩ := rep_tupH h1
  cases e
  obtain ⟨v, Sk, So, k1, k2, k3, k4, k5⟩ := reps_focus j3 h
  obtain ⟨S3, q1, q2⟩ := k5 F H .any [] (fun e u U r _ => r) (by simp only [Rep]) (fun a ha => nomatch ha)
  have q3 : ∀ a, a ∈ S3 → a ∈ So := fun a ha => ((q2 a).mp ha).elim (fun z => nomatch z) id
  have r3 : Rep K F H (.tup (ds.set i .any)) (.ref p) S3 := by
    simp only [Rep]
    exact ⟨p, us, rfl, j1, q1⟩
  refine ⟨us, v, j1, reps_len j3, k1, .join R.ex R.sl R.dl hl hv r1 (reps_cons k2 (reps_cons r3 h2 fun a ha hb => ?_) fun a ha hb => ?_) f1 (fun a ha => ?_) fun a ha hb => ?_⟩
  · exact h3 a ((k3 a).mpr (.inr (q3 a ha))) hb
  · rcases List.mem_append.mp hb with z | z
    · exact k4 a ha (q3 a z)
    · exact h3 a ((k3 a).mpr (.inl ha)) z
  · refine f2 a ?_
    simp only [List.mem_append] at ha ⊢
    rcases ha with z | z | z
    · exact .inl ((k3 a).mpr (.inl z))
    · exact .inl ((k3 a).mpr (.inr (q3 a z)))
    · exact .inr z
  · refine ap a ha ?_
    simp only [List.mem_append] at hb ⊢
    rcases hb with z | z | z
    · exact .inl ((k3 a).mpr (.inl z))
    · exact .inl ((k3 a).mpr (.inr (q3 a z)))
    · exact .inr z
theorem Rs.push (R : Rs K n FB HB F H σ δ ws T) {d : D} {v : V} (r : Rep K F H d v []) : Rs K n FB HB F H σ δ (v :: ws) (d :: T) := by
  obtain ⟨vs, S, U, hl, hv, r1, r2, f1, f2, ap⟩ := R.apart
  exact .join R.ex R.sl R.dl hl hv r1 (reps_cons r r2 (fun a ha => nomatch ha)) f1 (by simpa using f2) (by simpa using ap)
/-- an item of the frozen list on top is shared -/
theorem Rs.share {k : LK} {p : Addr} {ds : List D} (hk : k ≠ .own) (R : Rs K n FB HB F H σ δ (.ref p :: ws) (.lst k ds :: T)) : ∃ us : List V, SqL K H p us ∧ us.length = ds.length ∧ ∀ (i : Nat) (d : D), ds[i]? = some d → ∃ v, us[i]? = some v ∧ Rep K F H d v [] := by
  obtain ⟨vs, S, U, hl, hv, r1, r2, f1, f2, ap⟩ := R.apart
  obtain ⟨v', vr, S1, S2, e, h1, h2, h3, rfl⟩ := reps_uncons r2
  cases e
  have key : ∃ us, SqL K H p us ∧ Reps K F H ds us [] := by
    cases k with
    | own => exact absurd rfl hk
    | frz =>
      simp only [Rep] at h1
      obtain ⟨a, us, e, j1, j2, _⟩ := h1
      cases e
      exact ⟨us, .of (R.ex.in' _ _ j1), j2⟩
    | ro =>
      simp only [Rep] at h1
      obtain ⟨a, us, e, j1, j2, _⟩ := h1
      cases e
      exact ⟨us, R.ex.in'.seq j1, j2⟩
  obtain ⟨us, j1, j2⟩ := key
  refine ⟨us, j1, reps_len j2, fun i d hd => ?_⟩
  obtain ⟨v, S', k1, k2, k3⟩ := reps_get j2 hd
  have e : S' = [] := by
    cases S' with
    | nil => rfl
    | cons a S => exact absurd (k3 a List.mem_cons_self) (by simp)
  subst e
  exact ⟨v, k1, k2⟩
/-- a flat value put on top -/
theorem Rs.flat (R : Rs K n FB HB F H σ δ ws T) (i : Int) : Rs K n FB HB F H σ δ (.int i :: ws) (.int i :: T) := by
  obtain ⟨vs, S, U, hl, hv, r1, r2, f1, f2, ap⟩ := R.apart
  exact .join R.ex R.sl R.dl hl hv r1 (reps_cons (S := []) ⟨rfl, rfl⟩ r2 (fun a ha => nomatch ha)) f1 (by simpa using f2) (by simpa using ap)
theorem Rs.drops : ∀ {ds : List D} {us : List V}, us.length = ds.length → Rs K n FB HB F H σ δ (us ++ ws) (ds ++ T) → Rs K n FB HB F H σ δ ws T
  | [], us, hl, R => by
    cases us with
    | nil => exact R
    | cons => simp at hl
  | d :: ds, us, hl, R => by
    cases us with
    | nil => simp at hl
    | cons u us => exact Rs.drops (by simpa using hl) (Rs.drop R)
/-- temporaries frozen -/
theorem Rs.chill {ds : List D} {us : List V} (hl : us.length = ds.length) (R : Rs K n FB HB F H σ δ (us ++ ws) (ds ++ T)) : ∃ F', Rs K n FB HB F' H σ δ (us ++ ws) (D.frzs ds ++ T) := by
  obtain ⟨vs, S, U, hlv, hv, r1, r2, f1, f2, ap⟩ := R.apart
  obtain ⟨us', vr, U1, U2, e, rfl, g1, g2, g3⟩ := reps_split r2
  obtain ⟨rfl, rfl⟩ := split_len e (by rw [hl, reps_len g1])
  have hU : ∀ a, a ∈ U1 → F a = none := fun a ha => (reps_mem ds g1 a ha).2
  have fU : Fresh HB U1 := fun a ha => f2 a (List.mem_append_left _ ha)
  have ex := fz_ext R.ex hU fU
  have sm := fz_same R.ex.in' hU
  have out : ∀ a, a ∉ U1 → fz F H U1 a = F a := fun a ha => if_neg ha
  refine ⟨fz F H U1, .join ex R.sl R.dl hlv hv (reps_mono sm (.refl H) δ r1 fun a ha => (out a fun z => ap a ha (List.mem_append_left _ z)).trans (reps_mem δ r1 a ha).2)
    (reps_app (reps_frz sm ds g1 fun a ha => fz_at ha) (reps_mono sm (.refl H) T g2 fun a ha => (out a fun z => g3 a z ha).trans (reps_mem T g2 a ha).2) (fun a ha => nomatch ha)) f1 (fun a ha => f2 a ?_) fun a ha hb => ap a ha ?_⟩
  · simp at ha
    exact List.mem_append_right _ ha
  · simp at hb
    exact List.mem_append_right _ hb

theorem rangeL_at {c : Int} {m i : Nat} {lo : Int} {d : D} (h : (rangeL lo c m)[i]? = some d) : i < m ∧ d = .int (lo + (i : Nat) * c) := rangeL_get h
/-- THE TURN of a loop -/
theorem loop_item {iter : M} {args items : List D} {vs : List V} {J : It} (j : Jt K iter args vs J) (h : itJ iter args = .ok items) (hz : ∀ a l m e e2, iter = .it .zip a → args = [.lst l e, .lst m e2] → l ≠ .own ∧ m ≠ .own) {i : Nat} (R : Rs K n FB HB F H σ δ (vs ++ ws) (left iter args i ++ T)) :
    (∀ d, items[i]? = some d → J.go i H ∧ ∀ x H', J.yld i H x H' → Rs K n FB HB F H' σ δ (x :: (vs ++ ws)) (d :: (left iter args (i + 1) ++ T))) ∧ (items.length ≤ i → i ≤ items.length → J.stop i H) := by
  cases j with
  | @lst a k ds p =>
    simp only [itJ, itemsOf] at h
    injection h with h
    subst h
    cases k with
    | own =>
      simp only [left] at R ⊢
      refine ⟨fun d hd => ?_, fun h1 h2 => ?_⟩
      · have hi : i < ds.length := (List.getElem?_eq_some_iff.mp hd).1
        obtain ⟨us, v, k1, k2, k3, R2⟩ := Rs.pick (ws := ws) (T := T) R (anys_get i ds hd)
        rw [anys_set i ds hi] at R2
        refine ⟨⟨us, v, .of k1, k3⟩, fun x H' ⟨e, y⟩ => ?_⟩
        subst e
        have := y us (.of k1)
        rw [k3] at this
        cases this
        exact R2
      · obtain ⟨vs, S, U, hl, hv, r1, r2, f1, f2, ap⟩ := R.apart
        obtain ⟨v', vr, S1, S2, e, g1, g2, g3, rfl⟩ := reps_uncons r2
        cases e
        simp only [Rep] at g1
        obtain ⟨a, us, S', e, j1, j2, j3, j4, rfl⟩ := g1
        cases e
        have := reps_len j3
        rw [anys_len i ds h2] at this
        exact ⟨us, .of j1, by omega⟩
    | frz =>
      simp only [left] at R ⊢
      obtain ⟨us, k1, k2, k3⟩ := Rs.share (ws := ws) (T := T) (by decide) R
      refine ⟨fun d hd => ?_, fun h1 h2 => ⟨us, k1, by omega⟩⟩
      obtain ⟨v, q1, q2⟩ := k3 i d hd
      refine ⟨⟨us, v, k1, q1⟩, fun x H' ⟨e, y⟩ => ?_⟩
      subst e
      have := y us k1
      rw [q1] at this
      cases this
      exact R.push q2
    | ro =>
      simp only [left] at R ⊢
      obtain ⟨us, k1, k2, k3⟩ := Rs.share (ws := ws) (T := T) (by decide) R
      refine ⟨fun d hd => ?_, fun h1 h2 => ⟨us, k1, by omega⟩⟩
      obtain ⟨v, q1, q2⟩ := k3 i d hd
      refine ⟨⟨us, v, k1, q1⟩, fun x H' ⟨e, y⟩ => ?_⟩
      subst e
      have := y us k1
      rw [q1] at this
      cases this
      exact R.push q2
  | @tup a ds p =>
    simp only [itJ, itemsOf] at h
    injection h with h
    subst h
    simp only [left] at R ⊢
    refine ⟨fun d hd => ?_, fun h1 h2 => ?_⟩
    · have hi : i < ds.length := (List.getElem?_eq_some_iff.mp hd).1
      obtain ⟨us, v, k1, k2, k3, R2⟩ := Rs.pickT (ws := ws) (T := T) R (anys_get i ds hd)
      rw [anys_set i ds hi] at R2
      refine ⟨⟨us, v, .of k1, k3⟩, fun x H' ⟨e, y⟩ => ?_⟩
      subst e
      have := y us (.of k1)
      rw [k3] at this
      cases this
      exact R2
    · obtain ⟨b, us, e, j1, j2, _⟩ := Rs.untup (ws := ws) (T := T) R
      cases e
      rw [anys_len i ds h2] at j2
      exact ⟨us, .of j1, by omega⟩
  | @str a s =>
    simp only [itJ, itemsOf] at h
    injection h with h
    subst h
    simp only [left] at R ⊢
    refine ⟨fun d hd => ?_, fun h1 h2 => ?_⟩
    rotate_left
    · have : s.cps.size ≤ i := by simpa [signs] using h1
      exact this
    unfold signs at hd
    rw [List.getElem?_map, Option.map_eq_some_iff] at hd
    obtain ⟨c, hc, rfl⟩ := hd
    rw [Array.getElem?_toList] at hc
    refine ⟨(Array.getElem?_eq_some_iff.mp hc).1, fun x H' ⟨e, c', hc', ex⟩ => ?_⟩
    subst e ex
    rw [hc] at hc'
    cases hc'
    exact R.push (by simp [Rep])
  | @r1 es jj =>
    simp only [itJ, itop] at h
    split at h <;> first | (cases h; done) | skip
    injection h with h
    subst h
    refine ⟨fun d hd => ?_, fun h1 h2 => by rw [rangeL_len] at h1; exact h1⟩
    obtain ⟨k1, rfl⟩ := rangeL_at hd
    refine ⟨k1, fun x H' ⟨e, y⟩ => ?_⟩
    subst e y
    simpa [left] using R.flat _
  | @r2 es ii jj =>
    simp only [itJ, itop] at h
    split at h <;> first | (cases h; done) | skip
    injection h with h
    subst h
    refine ⟨fun d hd => ?_, fun h1 h2 => by rw [rangeL_len] at h1; exact h1⟩
    obtain ⟨k1, rfl⟩ := rangeL_at hd
    refine ⟨k1, fun x H' ⟨e, y⟩ => ?_⟩
    subst e y
    simpa [left] using R.flat _
  | @r3 es ii jj c =>
    simp only [itJ, itop] at h
    split at h <;> first | (cases h; done) | skip
    injection h with h
    subst h
    refine ⟨fun d hd => ?_, fun h1 h2 => by rw [rangeL_len] at h1; exact h1⟩
    obtain ⟨k1, rfl⟩ := rangeL_at hd
    refine ⟨k1, fun x H' ⟨e, y⟩ => ?_⟩
    subst e y
    simpa [left] using R.flat _
  | @en es k ds p =>
    simp only [itJ, itop] at h
    injection h with h
    subst h
    have mk : ∀ {v : V} {d : D} {wx : List V} {Tx : List D} {Ta : Addr}, H Ta = none → Rs K n FB HB F H σ δ (v :: wx) (d :: Tx) → Rs K n FB HB F (upd H Ta (.tup [.int (i : Nat), v])) σ δ (.ref Ta :: wx) (.tup [.int ((0 + i : Nat) : Int), d] :: Tx) := by
      intro v d wx Tx Ta nT R2
      have R3 := R2.flat (i : Nat)
      have := Rs.tup (us := [.int (i : Nat), v]) (ds := [.int (i : Nat), d]) (ws := wx) (T := Tx) rfl R3 nT
      simpa using this
    cases k with
    | own =>
      simp only [left] at R ⊢
      refine ⟨fun d hd => ?_, fun h1 h2 => ?_⟩
      · obtain ⟨x, hx, rfl⟩ := enumL_get hd
        have hi : i < ds.length := (List.getElem?_eq_some_iff.mp hx).1
        obtain ⟨us, v, k1, k2, k3, R2⟩ := Rs.pick (ws := ws) (T := T) R (anys_get i ds hx)
        rw [anys_set i ds hi] at R2
        refine ⟨⟨us, v, .of k1, k3⟩, fun x H' ⟨Ta, w, e, nT, e2, y⟩ => ?_⟩
        subst e e2
        have := y us (.of k1)
        rw [k3] at this
        cases this
        exact mk nT R2
      · rw [enumL_len] at h1 h2
        obtain ⟨vs, S, U, hl, hv, r1, r2, f1, f2, ap⟩ := R.apart
        obtain ⟨v', vr, S1, S2, e, g1, g2, g3, rfl⟩ := reps_uncons r2
        cases e
        simp only [Rep] at g1
        obtain ⟨a, us, S', e, j1, j2, j3, j4, rfl⟩ := g1
        cases e
        have := reps_len j3
        rw [anys_len i ds h2] at this
        exact ⟨us, .of j1, by omega⟩
    | frz =>
      simp only [left] at R ⊢
      obtain ⟨us, k1, k2, k3⟩ := Rs.share (ws := ws) (T := T) (by decide) R
      refine ⟨fun d hd => ?_, fun h1 h2 => ⟨us, k1, by rw [enumL_len] at h1; omega⟩⟩
      obtain ⟨x, hx, rfl⟩ := enumL_get hd
      obtain ⟨v, q1, q2⟩ := k3 i x hx
      refine ⟨⟨us, v, k1, q1⟩, fun x H' ⟨Ta, w, e, nT, e2, y⟩ => ?_⟩
      subst e e2
      have := y us k1
      rw [q1] at this
      cases this
      exact mk nT (R.push q2)
    | ro =>
      simp only [left] at R ⊢
      obtain ⟨us, k1, k2, k3⟩ := Rs.share (ws := ws) (T := T) (by decide) R
      refine ⟨fun d hd => ?_, fun h1 h2 => ⟨us, k1, by rw [enumL_len] at h1; omega⟩⟩
      obtain ⟨x, hx, rfl⟩ := enumL_get hd
      obtain ⟨v, q1, q2⟩ := k3 i x hx
      refine ⟨⟨us, v, k1, q1⟩, fun x H' ⟨Ta, w, e, nT, e2, y⟩ => ?_⟩
      subst e e2
      have := y us k1
      rw [q1] at this
      cases this
      exact mk nT (R.push q2)
  | @zp es k l ds es' p q =>
    simp only [itJ, itop] at h
    injection h with h
    subst h
    obtain ⟨hk, hl⟩ := hz _ _ _ _ _ rfl rfl
    simp only [left] at R ⊢
    obtain ⟨us, k1, k2, k3⟩ := Rs.share (ws := .ref q :: ws) (T := .lst l es' :: T) hk R
    obtain ⟨us', k1', k2', k3'⟩ := Rs.share (ws := ws) (T := T) hl (Rs.drop R)
    refine ⟨fun d hd => ?_, fun h1 h2 => ⟨us, us', k1, k1', by rw [zipL_len] at h1; omega⟩⟩
    obtain ⟨x, y, hx, hy, rfl⟩ := zipL_get hd
    obtain ⟨v, q1, q2⟩ := k3 i x hx
    obtain ⟨w, q3, q4⟩ := k3' i y hy
    refine ⟨⟨us, us', v, w, k1, k1', q1, q3⟩, fun x' H' ⟨Ta, a, b, e, nT, e2, y1, y2⟩ => ?_⟩
    subst e e2
    have := y1 us k1
    rw [q1] at this
    cases this
    have := y2 us' k1'
    rw [q3] at this
    cases this
    exact Rs.tup (us := [v, w]) (ds := [x, y]) rfl ((R.push q4).push q2) nT
end
end Mn

/-! MnJd: dicts at places, slots forgotten, keys as expressions. -/
namespace Mn
open PySem PySem.Spec L2
open PyProof.Rows hiding St

section
variable {K : PySem.W.Frag} {n : Nat} {FB : Bs} {HB F H : Hp} {σ : St} {δ : List D} {ws : List V} {T : List D}
/-- a slot that is told nothing of: at places of others -/
theorem setP_any : ∀ (p : Pl) (d : D) (i : Nat), getP δ p ≠ .any → getD' δ i = .any → getD' (setP δ p d) i = .any := by
  intro p
  induction p with
  | nm j =>
    intro d i hp hi
    show getD' (δ.set j d) i = .any
    by_cases hj : j < δ.length
    · rw [getD_set hj]
      by_cases e : j = i
      · subst e; exact absurd hi hp
      · rw [if_neg e]; exact hi
    · rw [List.set_eq_of_length_le (by omega)]; exact hi
  | ix p k ih =>
    intro d i hp hi
    simp only [getP] at hp
    simp only [setP]
    split
    · rename_i e; exact ih _ i (by rw [e]; exact fun z => nomatch z) hi
    · rename_i e; exact ih _ i (by rw [e]; exact fun z => nomatch z) hi
    · exact hi
/-- a dict with one owner, at a place -/
theorem Rs.ownD (R : Rs K n FB HB F H σ δ ws T) {p : Pl} {c : Bool} {ks vs : List D} (hg : getP δ p = .dct .own c ks vs) : ∃ a ps us, PlV H σ p (.ref a) ∧ H a = some (dO c a ks ps us) ∧ Reps K F H ks ps [] ∧ Reps K F H vs us [] ∧ dwf c ks vs = true ∧
    ∀ ks' vs' ps' us', Reps K F H ks' ps' [] → Reps K F H vs' us' [] → dwf c ks' vs' = true → Rs K n FB HB F (upd H a (dO c a ks' ps' us')) σ (setP δ p (.dct .own c ks' vs')) ws T := by
  obtain ⟨ss, S, U, hl, hv, r1, r2, f1, f2, ap⟩ := R.apart
  obtain ⟨v, Sd, So, i1, i2, i3, i4, i5⟩ := path_focus hl R.dl hv r1 p hg (fun z => nomatch z)
  simp only [Rep] at i2
  obtain ⟨a, ps, us, rfl, j1, j2, j3, j4, j5, rfl⟩ := i2
  have ha : a ∉ So := i4 a (by simp)
  have haS : a ∈ S := (i3 a).mpr (.inl (by simp))
  have haH : HB a = none := f1 a haS
  have haU : a ∉ U := ap a haS
  refine ⟨a, ps, us, i1, j1, j3, j4, j5, fun ks' vs' ps' us' g1 g2 g3 => ?_⟩
  have of := off_updD (o := dO c a ks' ps' us') j1
  obtain ⟨S', q1, q2⟩ := i5 (upd H a (dO c a ks' ps' us')) a (.dct .own c ks' vs') [a] of ha (by
    simp only [Rep]
    exact ⟨a, ps', us', rfl, upd_same, j2, reps_off of _ g1 (fun z => (List.not_mem_nil z).elim), reps_off of _ g2 (fun z => (List.not_mem_nil z).elim), g3, rfl⟩) fun b hb => by
      simp only [List.mem_singleton] at hb
      subst hb; exact ha
  have exu : Ext FB.f HB F (upd H a (dO c a ks' ps' us')) := ext_mod R.ex haH j2
  refine .join exu R.sl ?_ hl (fun i hi => ?_) q1 (reps_off of _ r2 haU) (fun b hb => ?_) f2 fun b hb hc => ?_
  · rw [← reps_len q1]; exact hl
  · rcases hv i hi with z | z
    · exact .inl (setP_any p _ i (by rw [hg]; exact fun z => nomatch z) z)
    · exact .inr z
  · rcases (q2 b).mp hb with z | z
    · simp only [List.mem_singleton] at z
      subst z; exact haH
    · exact f1 b ((i3 b).mpr (.inr z))
  · rcases (q2 b).mp hb with z | z
    · simp only [List.mem_singleton] at z
      subst z; exact haU hc
    · exact ap b ((i3 b).mpr (.inr z)) hc
/-- a slot forgotten -/
theorem Rs.forget (R : Rs K n FB HB F H σ δ ws T) (i : Nat) (x : Option V) (hp : FB.pn i = none) : Rs K n FB HB F H (σ.set i x) (δ.set i .any) ws T := by
  obtain ⟨vs, S, U, hl, hv, r1, r2, f1, f2, ap⟩ := R.apart
  have key : ∃ S', Reps K F H (δ.set i .any) vs S' ∧ ∀ a, a ∈ S' → a ∈ S := by
    cases e : δ[i]? with
    | none =>
      rw [List.set_eq_of_length_le (by simpa using e)]
      exact ⟨S, r1, fun a h => h⟩
    | some d =>
      obtain ⟨v, Sk, So, k1, k2, k3, k4, k5⟩ := reps_focus r1 e
      obtain ⟨S', q1, q2⟩ := k5 F H .any [] (fun e u U r _ => r) (by simp only [Rep]) (fun a ha => (List.not_mem_nil ha).elim)
      exact ⟨S', q1, fun a ha => ((q2 a).mp ha).elim (fun z => (List.not_mem_nil z).elim) fun z => (k3 a).mpr (.inr z)⟩
  obtain ⟨S', q1, q2⟩ := key
  refine .join R.ex (R.sl.set hp _) (by simp [R.dl]) hl (fun j hj => ?_) q1 r2 (fun a ha => f1 a (q2 a ha)) f2 fun a ha => ap a (q2 a ha)
  rcases getD_set_any (δ := δ) (i := i) (j := j) with z | ⟨hne, z⟩
  · exact .inl z
  · rw [z, List.getElem?_set_ne hne]
    exact hv j hj
/-- a new exception is kept -/
theorem Rs.exc (R : Rs K n FB HB F H σ δ ws T) {a : Addr} {c : Str} (ha : H a = none) : Rs K n FB HB F (upd H a (ExV (.ref (He.ga K c)) a)) σ δ (.ref a :: ws) (.exc c :: T) := by
  obtain ⟨vs, S, U, hl, hv, r1, r2, f1, f2, ap⟩ := R.apart
  have x := ext_step (o := ExV (.ref (He.ga K c)) a) R.ex.in' ha
  refine .join (R.ex.trans x) R.sl R.dl hl hv (reps_ext x r1) (reps_cons (S := []) (T := U) ?_ (reps_ext x r2) fun a ha => (List.not_mem_nil ha).elim) f1 (by simpa using f2) (by simpa using ap)
  simp only [Rep]
  exact ⟨a, rfl, upd_same, trivial⟩
end

/-! ### a run with slots frozen for a while -/
section
variable {K : PySem.W.Frag} {n : Nat} {FB : Bs} {HB F H F' H' : Hp} {σ σ' : St} {δ δ' : List D} {ws : List V} {T : List D}
/-- the selected slots -/
def sel (p : Nat → D → Bool) : Nat → List D → List D
  | _, [] => []
  | k, d :: ds => (if p k d = true then d else .any) :: sel p (k + 1) ds
mutual
theorem rep_kind : ∀ (d : D) {v : V} {S : List Addr}, Rep K F H d v S → ∀ a, a ∈ S → (∃ us, H a = some (.lst us)) ∨ ∃ c ks ps us, H a = some (dO c a ks ps us)
  | .any, _, _, h, a, ha => by simp only [Rep] at h; subst h; cases ha
  | .non, _, _, h, a, ha => by simp only [Rep] at h; obtain ⟨_, rfl⟩ := h; cases ha
  | .bl _, _, _, h, a, ha => by simp only [Rep] at h; obtain ⟨_, rfl⟩ := h; cases ha
  | .int _, _, _, h, a, ha => by simp only [Rep] at h; obtain ⟨_, rfl⟩ := h; cases ha
  | .str _, _, _, h, a, ha => by simp only [Rep] at h; obtain ⟨_, rfl⟩ := h; cases ha
  | .exc _, _, _, h, a, ha => by simp only [Rep] at h; obtain ⟨_, _, _, rfl⟩ := h; cases ha
  | .tup ds, _, _, h, a, ha => by
    simp only [Rep] at h
    obtain ⟨b, vs, _, _, h⟩ := h
    exact reps_kind ds h a ha
  | .lst .own ds, _, _, h, a, ha => by
    simp only [Rep] at h
    obtain ⟨b, vs, S', _, h1, h2, h3, _, rfl⟩ := h
    rcases List.mem_cons.mp ha with rfl | ha
    · exact .inl ⟨_, h1⟩
    · exact reps_kind ds h3 a ha
  | .lst .frz ds, _, _, h, a, ha => by simp only [Rep] at h; obtain ⟨b, vs, _, _, _, rfl⟩ := h; cases ha
  | .lst .ro ds, _, _, h, a, ha => by simp only [Rep] at h; obtain ⟨b, vs, _, _, _, rfl⟩ := h; cases ha
  | .dct .own c ks vs, _, _, h, a, ha => by
    simp only [Rep] at h
    obtain ⟨b, ps, us, _, h1, _, _, _, _, rfl⟩ := h
    rw [List.mem_singleton.mp ha]
    exact .inr ⟨_, _, _, _, h1⟩
  | .dct .frz _ _ _, _, _, h, a, ha => by simp only [Rep] at h; obtain ⟨_, _, _, _, _, _, _, _, rfl⟩ := h; cases ha
  | .dct .ro _ _ _, _, _, h, a, ha => by simp only [Rep] at h
theorem reps_kind : ∀ (ds : List D) {vs : List V} {S : List Addr}, Reps K F H ds vs S → ∀ a, a ∈ S → (∃ us, H a = some (.lst us)) ∨ ∃ c ks ps us, H a = some (dO c a ks ps us)
  | [], _, _, h, a, ha => by simp only [Reps] at h; obtain ⟨_, rfl⟩ := h; cases ha
  | d :: ds, _, _, h, a, ha => by
    obtain ⟨v, vr, S1, S2, rfl, h1, h2, _, rfl⟩ := reps_uncons h
    rcases List.mem_append.mp ha with z | z
    · exact rep_kind d h1 a z
    · exact reps_kind ds h2 a z
end
/-- what is off SR is as it was -/
structure Mov (F H H' : Hp) (SR : List Addr) : Prop where
  keep : ∀ a o, H a = some o → a ∉ SR → H' a = some o
  kind : ∀ a, a ∈ SR → (∃ us, H a = some (.lst us)) ∨ ∃ c ks ps us, H a = some (dO c a ks ps us)
theorem Mov.tup {SR : List Addr} (M : Mov F H H' SR) {a : Addr} {us : List V} (h : H a = some (.tup us)) : H' a = some (.tup us) :=
  M.keep a _ h fun z => by
    rcases M.kind a z with ⟨ws, e⟩ | ⟨c, ks, ps, ws, e⟩
    · rw [h] at e; cases e
    · rw [h] at e
      unfold dO at e
      split at e
      · cases e
      · unfold NdO at e; cases e
mutual
theorem rep_move {SR : List Addr} (M : Mov F H H' SR) : ∀ (d : D) {v : V} {S : List Addr}, Rep K F H d v S → (∀ a, a ∈ S → a ∉ SR) → Rep K F H' d v S
  | .any, _, _, h, _ => by simp only [Rep] at h ⊢; exact h
  | .non, _, _, h, _ => by simp only [Rep] at h ⊢; exact h
  | .bl _, _, _, h, _ => by simp only [Rep] at h ⊢; exact h
  | .int _, _, _, h, _ => by simp only [Rep] at h ⊢; exact h
  | .str _, _, _, h, _ => by simp only [Rep] at h ⊢; exact h
  | .exc _, _, _, h, _ => by
    simp only [Rep] at h ⊢
    obtain ⟨a, e1, e2, e3⟩ := h
    refine ⟨a, e1, M.keep a _ e2 fun z => ?_, e3⟩
    rcases M.kind a z with ⟨ws, e⟩ | ⟨c, ks, ps, ws, e⟩
    · rw [e2] at e; unfold ExV at e; cases e
    · rw [e2] at e
      unfold dO at e
      split at e
      · unfold ExV at e; cases e
      · exact exv_nd (Option.some.inj e)
  | .tup ds, _, _, h, hs => by
    simp only [Rep] at h ⊢
    obtain ⟨a, vs, e1, e2, h3⟩ := h
    exact ⟨a, vs, e1, M.tup e2, reps_move M ds h3 hs⟩
  | .lst .own ds, _, _, h, hs => by
    simp only [Rep] at h ⊢
    obtain ⟨a, vs, S', e1, e2, e3, h3, e4, rfl⟩ := h
    exact ⟨a, vs, S', e1, M.keep a _ e2 (hs a List.mem_cons_self), e3, reps_move M ds h3 (fun b hb => hs b (List.mem_cons_of_mem _ hb)), e4, rfl⟩
  | .lst .frz ds, _, _, h, _ => by
    simp only [Rep] at h ⊢
    obtain ⟨a, vs, e1, e2, h3, e4⟩ := h
    exact ⟨a, vs, e1, e2, reps_move M ds h3 (fun b hb => nomatch hb), e4⟩
  | .lst .ro ds, _, _, h, _ => by
    simp only [Rep] at h ⊢
    obtain ⟨a, vs, e1, e2, h3, e4⟩ := h
    exact ⟨a, vs, e1, e2, reps_move M ds h3 (fun b hb => nomatch hb), e4⟩
  | .dct .own c ks vs, _, _, h, hs => by
    simp only [Rep] at h ⊢
    obtain ⟨a, ps, us, e1, e2, e3, h3, h4, e5, rfl⟩ := h
    exact ⟨a, ps, us, e1, M.keep a _ e2 (hs a List.mem_cons_self), e3, reps_move M ks h3 (fun b hb => nomatch hb), reps_move M vs h4 (fun b hb => nomatch hb), e5, rfl⟩
  | .dct .frz c ks vs, _, _, h, hs => by
    simp only [Rep] at h ⊢
    obtain ⟨a, ps, us, e1, e2, h3, h4, e5, e6⟩ := h
    exact ⟨a, ps, us, e1, e2, reps_move M ks h3 (fun b hb => nomatch hb), reps_move M vs h4 (fun b hb => nomatch hb), e5, e6⟩
  | .dct .ro _ _ _, _, _, h, _ => by simp only [Rep] at h
theorem reps_move {SR : List Addr} (M : Mov F H H' SR) : ∀ (ds : List D) {vs : List V} {S : List Addr}, Reps K F H ds vs S → (∀ a, a ∈ S → a ∉ SR) → Reps K F H' ds vs S
  | [], _, _, h, _ => by simp only [Reps] at h ⊢; exact h
  | d :: ds, _, _, h, hs => by
    obtain ⟨v, vr, S1, S2, rfl, h1, h2, h3, rfl⟩ := reps_uncons h
    exact reps_cons (rep_move M d h1 fun a ha => hs a (List.mem_append_left _ ha)) (reps_move M ds h2 fun a ha => hs a (List.mem_append_right _ ha)) h3
end
theorem reps_frzS {U : List Nat} {p : Nat → D → Bool} (p1 : ∀ k d, k ∈ U → p k d = true) (p2 : ∀ k d, p k d = true → k ∉ U → d.bare = true) : ∀ {δ : List D} {vs : List V} {S : List Addr} (k : Nat), Reps K F H δ vs S → ∃ SU SR : List Addr, (∀ a, a ∈ S ↔ a ∈ SU ∨ a ∈ SR) ∧ (∀ a, a ∈ SU → a ∉ SR) ∧
    (∀ F', Same F F' → (∀ a, a ∈ SU → F' a = H a) → (∀ a, a ∈ SR → F' a = none) → Reps K F' H (frzU U k δ) vs SR) ∧ Reps K F H (sel p k δ) vs SU
  | [], vs, S, k, h => by
    simp only [Reps] at h
    obtain ⟨rfl, rfl⟩ := h
    exact ⟨[], [], fun a => by simp, (fun a ha => nomatch ha), fun F' _ _ _ => by simp [frzU, Reps], by simp [sel, Reps]⟩
  | d :: ds, vs, S, k, h => by
    obtain ⟨v, vr, S1, S2, rfl, h1, h2, h3, rfl⟩ := reps_uncons h
    obtain ⟨SU, SR, m, ap, g, g2⟩ := reps_frzS p1 p2 (k + 1) h2
    by_cases hk : k ∈ U
    · refine ⟨S1 ++ SU, SR, fun a => ?_, fun a ha hb => ?_, fun F' hF h4 h5 => ?_, ?_⟩
      · rw [List.mem_append, m, List.mem_append, or_assoc]
      · rcases List.mem_append.mp ha with z | z
        · exact h3 a z ((m a).mpr (.inr hb))
        · exact ap a z hb
      · simp only [frzU, if_pos hk]
        have r1 := rep_frz hF d h1 fun a ha => h4 a (List.mem_append_left _ ha)
        have r2 := g F' hF (fun a ha => h4 a (List.mem_append_right _ ha)) h5
        exact reps_cons r1 r2 (fun a ha => nomatch ha)
      · simp only [sel, p1 k d hk, if_true]
        exact reps_cons h1 g2 fun a ha hb => h3 a ha ((m a).mpr (.inl hb))
    · refine ⟨SU, S1 ++ SR, fun a => ?_, fun a ha hb => ?_, fun F' hF h4 h5 => ?_, ?_⟩
      · rw [List.mem_append, m, List.mem_append]
        constructor
        · rintro (z | z | z)
          · exact .inr (.inl z)
          · exact .inl z
          · exact .inr (.inr z)
        · rintro (z | z | z)
          · exact .inr (.inl z)
          · exact .inl z
          · exact .inr (.inr z)
      · rcases List.mem_append.mp hb with z | z
        · exact h3 a z ((m a).mpr (.inl ha))
        · exact ap a ha z
      · simp only [frzU, if_neg hk]
        have r1 := rep_mono hF (.refl H) d h1 fun a ha => h5 a (List.mem_append_left _ ha)
        have r2 := g F' hF h4 fun a ha => h5 a (List.mem_append_right _ ha)
        exact reps_cons r1 r2 fun a ha hb => h3 a ha ((m a).mpr (.inr hb))
      · by_cases hp : p k d = true
        · simp only [sel, hp, if_true]
          have e : S1 = [] := rep_bare d h1 (p2 k d hp hk)
          subst e
          exact reps_cons (S := []) h1 g2 (fun a ha => nomatch ha)
        · simp only [sel, hp]
          exact reps_cons (S := []) (show Rep K F H .any v [] by simp only [Rep]) g2 (fun a ha => nomatch ha)
theorem reps_selP : ∀ {δ : List D} {vs : List V} {S : List Addr} (k : Nat), Reps K F' H' δ vs S → (∀ a, a ∈ S → F a = none) → ∃ S3, Reps K F H' (sel (fun _ e => e.pur) k δ) vs S3 ∧ ∀ a, a ∈ S3 → a ∈ S
  | [], vs, S, k, h, _ => by
    simp only [Reps] at h
    obtain ⟨rfl, rfl⟩ := h
    exact ⟨[], by simp [sel, Reps], fun a ha => ha⟩
  | d :: ds, vs, S, k, h, hF => by
    obtain ⟨v, vr, S1, S2, rfl, h1, h2, h3, rfl⟩ := reps_uncons h
    obtain ⟨S3, g1, g2⟩ := reps_selP (k + 1) h2 fun a ha => hF a (List.mem_append_right _ ha)
    by_cases hp : d.pur = true
    · refine ⟨S1 ++ S3, ?_, fun a ha => ?_⟩
      · simp only [sel, hp, if_true]
        exact reps_cons (rep_pur d hp h1 fun a ha => hF a (List.mem_append_left _ ha)) g1 fun a ha hb => h3 a ha (g2 a hb)
      · rcases List.mem_append.mp ha with z | z
        · exact List.mem_append_left _ z
        · exact List.mem_append_right _ (g2 a z)
    · refine ⟨S3, ?_, fun a ha => List.mem_append_right _ (g2 a ha)⟩
      simp only [sel, hp]
      exact reps_cons (S := []) (show Rep K F H' .any v [] by simp only [Rep]) g1 (fun a ha => nomatch ha)
/-- which slots are as they were -/
def oldB (U A : List Nat) (k : Nat) (d : D) : Bool := decide (k ∈ U) || (decide (k ∉ A) && d.bare)
theorem reps_scope {U A : List Nat} : ∀ {δ δ' : List D} {vs vs' : List V} {S1 S3 : List Addr} (k : Nat), δ.length = δ'.length → Reps K F H (sel (oldB U A) k δ) vs S1 → Reps K F H (sel (fun _ e => e.pur) k δ') vs' S3 → (∀ a, a ∈ S1 → a ∉ S3) →
    ∃ vs2 S2, Reps K F H (scopeD U A k δ δ') vs2 S2 ∧ (∀ a, a ∈ S2 → a ∈ S1 ∨ a ∈ S3) ∧ ∀ i d, δ[i]? = some d → vs2[i]? = if oldB U A (k + i) d = true then vs[i]? else vs'[i]?
  | [], [], vs, vs', S1, S3, k, _, h1, h2, _ => ⟨[], [], by simp [scopeD, Reps], (fun a ha => nomatch ha), fun i d hd => by simp at hd⟩
  | [], e :: es, _, _, _, _, _, hl, _, _, _ => by simp at hl
  | d :: ds, [], _, _, _, _, _, hl, _, _, _ => by simp at hl
  | d :: ds, e :: es, vs, vs', S1, S3, k, hl, h1, h2, ap => by
    simp only [sel] at h1 h2
    obtain ⟨v, vr, A1, A2, rfl, a1, a2, a3, rfl⟩ := reps_uncons h1
    obtain ⟨w, wr, B1, B2, rfl, b1, b2, b3, rfl⟩ := reps_uncons h2
    obtain ⟨us, S2, r, q, z⟩ := reps_scope (k + 1) (by simpa using hl) a2 b2 fun a ha hb => ap a (List.mem_append_right _ ha) (List.mem_append_right _ hb)
    have key : ∃ u C, Rep K F H (if k ∈ U then d else if k ∉ A ∧ d.bare = true then d else if e.pur = true then e else .any) u C ∧ (∀ a, a ∈ C → (a ∈ A1 ∨ a ∈ B1)) ∧ u = if oldB U A k d = true then v else w := by
      by_cases h1 : k ∈ U
      · have o : oldB U A k d = true := by simp [oldB, h1]
        rw [if_pos o] at a1
        exact ⟨v, A1, by rw [if_pos h1]; exact a1, fun a ha => .inl ha, by rw [if_pos o]⟩
      · by_cases h2 : k ∉ A ∧ d.bare = true
        · have o : oldB U A k d = true := by simp [oldB, h2.1, h2.2]
          rw [if_pos o] at a1
          exact ⟨v, A1, by rw [if_neg h1, if_pos h2]; exact a1, fun a ha => .inl ha, by rw [if_pos o]⟩
        · have o : ¬ oldB U A k d = true := by
            intro z
            simp only [oldB, Bool.or_eq_true, decide_eq_true_eq, Bool.and_eq_true] at z
            exact z.elim h1 h2
          refine ⟨w, B1, ?_, fun a ha => .inr ha, by rw [if_neg o]⟩
          rw [if_neg h1, if_neg h2]
          exact b1
    obtain ⟨u, C, c1, c2, c3⟩ := key
    refine ⟨u :: us, C ++ S2, ?_, fun a ha => ?_, fun i d' hd => ?_⟩
    · simp only [scopeD]
      refine reps_cons c1 r fun a ha hb => ?_
      rcases c2 a ha with x | x <;> rcases q a hb with y | y
      · exact a3 a x y
      · exact ap a (List.mem_append_left _ x) (List.mem_append_right _ y)
      · exact ap a (List.mem_append_right _ y) (List.mem_append_left _ x)
      · exact b3 a x y
    · rcases List.mem_append.mp ha with x | x
      · exact (c2 a x).imp (fun y => List.mem_append_left _ y) fun y => List.mem_append_left _ y
      · exact (q a x).imp (fun y => List.mem_append_right _ y) fun y => List.mem_append_right _ y
    · cases i with
      | zero =>
        cases hd
        show some u = _
        rw [Nat.add_zero, c3]
        split <;> rfl
      | succ i =>
        have := z i d' (by simpa using hd)
        rw [show k + 1 + i = k + (i + 1) by omega] at this
        simpa using this
theorem scopeD_len {U A : List Nat} : ∀ (k : Nat) (δ δ' : List D), δ.length = δ'.length → (scopeD U A k δ δ').length = δ.length
  | k, [], [], _ => rfl
  | k, [], _ :: _, h => by simp at h
  | k, _ :: _, [], h => by simp at h
  | k, d :: ds, e :: es, h => by simp [scopeD, scopeD_len (k + 1) ds es (by simpa using h)]
theorem scopeD_get {U A : List Nat} : ∀ (k : Nat) (δ δ' : List D) (i : Nat) (d e : D), δ[i]? = some d → δ'[i]? = some e → (scopeD U A k δ δ')[i]? = some (if oldB U A (k + i) d = true then d else if e.pur = true then e else .any)
  | k, [], _, i, d, e, h, _ => by simp at h
  | k, _ :: _, [], i, d, e, _, h => by simp at h
  | k, d :: ds, e :: es, 0, d', e', h, h' => by
    cases h
    cases h'
    simp only [scopeD, List.getElem?_cons_zero, Nat.add_zero]
    by_cases h1 : k ∈ U
    · rw [if_pos h1, if_pos (show oldB U A k d = true by simp [oldB, h1])]
    · by_cases h2 : k ∉ A ∧ d.bare = true
      · rw [if_neg h1, if_pos h2, if_pos (show oldB U A k d = true by simp [oldB, h2.1, h2.2])]
      · have o : ¬ oldB U A k d = true := by
          intro z
          simp only [oldB, Bool.or_eq_true, decide_eq_true_eq, Bool.and_eq_true] at z
          exact z.elim h1 h2
        rw [if_neg h1, if_neg h2, if_neg o]
  | k, d :: ds, e :: es, i + 1, d', e', h, h' => by
    have := scopeD_get (U := U) (A := A) (k + 1) ds es i d' e' (by simpa using h) (by simpa using h')
    rw [show k + 1 + i = k + (i + 1) by omega] at this
    simpa [scopeD] using this
/-- A RUN WITH SLOTS FROZEN FOR A WHILE -/
theorem Rs.scope (R : Rs K n FB HB F H σ δ ws T) (U A : List Nat) (hU : ∀ i, i ∈ U → i ∉ A) (hp : ∀ i, i ∈ A → FB.pn i = none) : ∃ (FB2 : Bs) (HB2 : Hp), (∀ i, i ∈ A → FB2.pn i = none) ∧ Ext FB.f HB FB2.f H ∧ Same HB HB2 ∧ Rs K n FB2 HB2 FB2.f H σ (frzU U 0 δ) [] [] ∧
    ∀ F' H' σ' δ', Rs K n FB2 HB2 F' H' σ' δ' [] [] → Rs K n FB HB F H' σ' (scopeD U A 0 δ δ') ws T := by
  obtain ⟨vs, S, V1, hl, hv, r1, r2, f1, f2, ap⟩ := R.apart
  obtain ⟨SU, SR, m, ap2, g, gs⟩ := reps_frzS (U := U) (p := oldB U A) (fun k d hk => by simp [oldB, hk]) (fun k d h hk => by
    simp only [oldB, Bool.or_eq_true, decide_eq_true_eq, Bool.and_eq_true] at h
    exact h.elim (fun z => absurd z hk) (·.2)) 0 r1
  have hSU : ∀ a, a ∈ SU → F a = none := fun a ha => (reps_mem δ r1 a ((m a).mpr (.inl ha))).2
  have hSR : ∀ a, a ∈ SR → F a = none := fun a ha => (reps_mem δ r1 a ((m a).mpr (.inr ha))).2
  have fSU : Fresh HB SU := fun a ha => f1 a ((m a).mpr (.inl ha))
  have fSR : Fresh HB SR := fun a ha => f1 a ((m a).mpr (.inr ha))
  have exv := fz_ext R.ex hSU fSU
  have sv := fz_same R.ex.in' hSU
  have out : ∀ a, a ∉ SU → fz F H SU a = F a := fun a ha => if_neg ha
  have rv : Reps K (fz F H SU) H (frzU U 0 δ) vs SR := g _ sv (fun a ha => fz_at ha) fun a ha => (out a fun z => ap2 a z ha).trans (hSR a ha)
  have hb : Same HB (les H SR) := fun a o e => by
    have : a ∉ SR := fun z => by rw [fSR a z] at e; cases e
    rw [les_out this]
    exact R.ex.h _ _ e
  have hbn : ∀ a, a ∈ SR → les H SR a = none := fun a ha => if_pos ha
  refine ⟨⟨fz F H SU, fun i => if i ∈ A then none else (σ[i]?).join⟩, les H SR, fun i hi => if_pos hi, exv, hb, ?_, fun F' H' σ' δ' R2 => ?_⟩
  · refine ⟨⟨.refl _, les_in, exv.in', fun _ _ z => z⟩, ⟨R.sl.1, fun i v z => ?_⟩, by rw [frzU_len, R.dl], vs, SR, hl, fun i hi => ?_, by simpa using rv, hbn⟩
    · have z' : (if i ∈ A then none else (σ[i]?).join) = some v := z
      split at z'
      · cases z'
      · cases e : σ[i]? with
        | none => rw [e] at z'; cases z'
        | some x => rw [e] at z'; cases x with
          | none => cases z'
          | some y => cases z'; rfl
    · rw [getD_frzU]
      rcases hv i hi with z | z
      · rw [z]; left; split <;> simp [D.frz]
      · exact .inr z
  · obtain ⟨vs', S', U', hl', hv', r1', r2', f1', f2', ap'⟩ := R2.apart
    have e := R2.ex
    have FF : Same F F' := sv.trans e.f
    have keep : ∀ a o, H a = some o → a ∉ SR → H' a = some o := fun a o h1 h2 => e.h a o (by rw [les_out h2]; exact h1)
    have M : Mov F H H' SR := ⟨keep, fun a ha => reps_kind δ r1 a ((m a).mpr (.inr ha))⟩
    have gA := reps_move M _ gs ap2
    have gT := reps_move M _ r2 fun a ha hb => ap a ((m a).mpr (.inr hb)) ha
    obtain ⟨S3, gP, hP⟩ := reps_selP (F := F) 0 r1' fun a ha => FF.free (reps_mem δ' r1' a ha).2
    have d13 : ∀ a, a ∈ SU → a ∉ S3 := fun a ha hb => by
      obtain ⟨⟨o, ho⟩, _⟩ := reps_mem δ r1 a ((m a).mpr (.inl ha))
      have h1 : F' a = some o := e.f a o ((fz_at ha).trans ho)
      have h2 := (reps_mem δ' r1' a (hP a hb)).2
      rw [h1] at h2
      cases h2
    have ll : δ.length = δ'.length := by rw [R.dl, R2.dl]
    obtain ⟨vs2, S2, q1, q2, q3⟩ := reps_scope (U := U) (A := A) 0 ll gA gP d13
    have exF : Ext FB.f HB F H' := ⟨R.ex.f, hb.trans e.h, fun a o z => keep a o (R.ex.in' _ _ z) fun y => (by rw [hSR a y] at z; cases z), R.ex.new⟩
    refine .join exF ⟨R2.sl.1, fun i v z => ?_⟩ (by rw [scopeD_len 0 δ δ' ll, R.dl]) (by rw [reps_len q1, scopeD_len 0 δ δ' ll, R.dl]) (fun i hi => ?_) q1 gT (fun a ha => ?_) f2 fun a ha hb' => ?_
    · have hA : i ∉ A := fun y => by rw [hp i y] at z; cases z
      refine R2.sl.2 i v ?_
      show (if i ∈ A then none else (σ[i]?).join) = some v
      rw [if_neg hA, R.sl.2 i v z]
      rfl
    · have hd : δ[i]? = some (getD' δ i) := by
        unfold getD'
        rw [List.getD_eq_getElem?_getD, List.getElem?_eq_getElem (by rw [R.dl]; exact hi)]
        rfl
      have he : δ'[i]? = some (getD' δ' i) := by
        unfold getD'
        rw [List.getD_eq_getElem?_getD, List.getElem?_eq_getElem (by rw [R2.dl]; exact hi)]
        rfl
      have hg : getD' (scopeD U A 0 δ δ') i = if oldB U A i (getD' δ i) = true then getD' δ i else if (getD' δ' i).pur = true then getD' δ' i else .any := by
        have := scopeD_get (U := U) (A := A) 0 δ δ' i _ _ hd he
        rw [Nat.zero_add] at this
        show (scopeD U A 0 δ δ').getD i .any = _
        rw [List.getD_eq_getElem?_getD, this]
        rfl
      have hq := q3 i _ hd
      rw [Nat.zero_add] at hq
      rw [hg, hq]
      by_cases o : oldB U A i (getD' δ i) = true
      · rw [if_pos o, if_pos o]
        rcases hv i hi with z | z
        · exact .inl z
        · right
          have hA : i ∉ A := by
            simp only [oldB, Bool.or_eq_true, decide_eq_true_eq, Bool.and_eq_true] at o
            exact o.elim (hU i) (·.1)
          obtain ⟨v, hvv⟩ : ∃ v, vs[i]? = some v := ⟨_, List.getElem?_eq_getElem (by omega)⟩
          rw [hvv] at z ⊢
          refine R2.sl.2 i v ?_
          show (if i ∈ A then none else (σ[i]?).join) = some v
          rw [if_neg hA, z]
          rfl
      · rw [if_neg o, if_neg o]
        rcases hv' i hi with z | z
        · rw [z]; left; split <;> rfl
        · exact .inr z
    · rcases q2 a ha with z | z
      · exact fSU a z
      · exact hb.free (f1' a (hP a z))
    · rcases q2 a ha with z | z
      · exact ap a ((m a).mpr (.inl z)) hb'
      · have h1 := f1' a (hP a z)
        obtain ⟨⟨o, ho⟩, _⟩ := reps_mem T r2 a hb'
        have h2 : a ∉ SR := fun y => ap a ((m a).mpr (.inr y)) hb'
        rw [les_out h2, ho] at h1
        cases h1
end

/-- a flat value: nothing is held behind it -/
def tF (K : PySem.W.Frag) (n : Nat) (Φ : Fn) (γ : Gn) (XW : XWs) (FB : Bs) (HB : Hp) (m : M) : TE := fun σ H Q => ∃ F δ ws T, Rs K n FB HB F H σ δ ws T ∧ Kg (fun c => XW c σ) H (ev Φ γ m (D.frzs δ)) fun d => d.flat = true ∧ ∀ v H', Same H H' → Rep K F H' d v [] → Rs K n FB HB F H' σ δ ws T → Q v H'
theorem tF_tE {K : PySem.W.Frag} {n : Nat} {Φ : Fn} {γ : Gn} {XW : XWs} {FB : Bs} {HB : Hp} {m : M} {σ : St} {H : Hp} {Q : VK} (h : tF K n Φ γ XW FB HB m σ H Q) : tE K n Φ γ XW m σ H Q := by
  obtain ⟨F, δ, ws, T, R, k⟩ := h
  obtain ⟨Fv, ex, E, v1, v2, v3⟩ := R.view m.uses
  refine ⟨Fv, D.frzs δ, E, ?_⟩
  cases e : ev Φ γ m (D.frzs δ) with
  | ok d =>
    rw [e] at k
    obtain ⟨hf, q⟩ := k
    intro v F' H' S e' r f
    exact q v H' e'.h (rep_flat (F' := F) d hf r).2 (v3 F' H' e')
  | exc c =>
    rw [e] at k
    exact fun H' s => k H' s
  | bad => rw [e] at k; exact k.elim
theorem _root_.L2.PSet.or {X : Cx} {t t' : TSet} (h : PSet X t) (h' : PSet X t') : PSet X (fun o i v H Q => t o i v H Q ∨ t' o i v H Q) := by
  intro pins s σ H o i v ov iv u Q I ro ri rv q
  rcases q with q | q
  · exact h pins s σ H o i v ov iv u Q I ro ri rv q
  · exact h' pins s σ H o i v ov iv u Q I ro ri rv q
/-- d[k] = v by values -/
def rSetD (K : PySem.W.Frag) : TSet := fun o i v H Q => ∃ (a : Addr) (F : Hp) (c : Bool) (ks vs : List D) (ps us : List V) (kd vd : D), o = .ref a ∧ H a = some (dO c a ks ps us) ∧ Reps K F H ks ps [] ∧ Reps K F H vs us [] ∧ dwf c ks vs = true ∧ ks.length < sizeLine ∧ keyOk c kd = true ∧
  Rep K F H kd i [] ∧ Rep K F H vd v [] ∧ vd.flat = true ∧ ∀ ps' us', Reps K F H (dput ks vs kd vd).1 ps' [] → Reps K F H (dput ks vs kd vd).2 us' [] → dwf c (dput ks vs kd vd).1 (dput ks vs kd vd).2 = true → Q (upd H a (dO c a (dput ks vs kd vd).1 ps' us'))
theorem set_dict {X : Cx} (hu : X.A.units + 66 < cLine) : PSet X (rSetD X.K) := by
  intro pins s σ H o i v ov iv u Q I ro ri rv h
  obtain ⟨a, F, c, ks, vs, ps, us, kd, vd, rfl, h1, h2, h3, h4, h5, h6, h7, h8, h9, q⟩ := h
  cases ro
  exact dc_put hu I h1 h2 h3 h4 h5 h6 h7 ri h8 rv h9 fun ps' us' s' I' k1 k2 k3 => ⟨_, I', q ps' us' k1 k2 k3⟩
end Mn

/-! MnK: statements: the look (mts) and that a statement does as the evaluator does. -/
namespace Mn
open PySem PySem.Spec L2
open PyProof.Rows hiding St

def noComp : Expr → Bool
  | .ListComp _ _ _ _ => false
  | .SetComp _ _ _ _ => false
  | .DictComp _ _ _ _ _ => false
  | _ => true
def noTup : Expr → Bool
  | .Tuple _ _ _ => false
  | _ => true
def isNmE : Expr → Bool
  | .Name _ _ => true
  | _ => false
/-- the list of a comprehension goes straight into the name -/
def swB (sc : Scope) (y : Str) (py : Pos) (v : Expr) : Bool := match v with
  | .ListComp _ _ s lp => decide (sc.names.lookup y = some .local) && decide (py.line = lp.line) && !(s.names.any fun p => p.1 == y && (p.2 == .local || p.2 == .cell))
  | _ => false
def plainSet (sc : Scope) (t v : Expr) : Bool := match t with
  | .Name y py => noComp v || (match v with
    | .ListComp _ _ _ _ => !(swB sc y py v)
    | _ => false)
  | .Tuple _ _ _ => noTup v && noComp v
  | _ => false
def isSlice : Expr → Bool
  | .Slice _ _ _ _ => true
  | _ => false

/-- a, b = u, v with the stores turned about -/
def parB (sc : Scope) (x y : Str) (px py : Pos) (u v : Expr) : Bool := notStar u && notStar v && (py.line == px.line) && decide (sc.names.lookup x = some .local) && decide (sc.names.lookup y = some .local) && decide (x ≠ y) &&
  !([u, v].all (foldedForSure 8)) && !([u, v].all (constantsAlone 8))

def mtI (T : Tab) (sc : Scope) : M → Expr → Expr → Bool
  | .its a, _, it => mtT T a sc (.ex it)
  | .it k es, t, .Call (.Name x _) l [] _ => decide (x = k.nm.1) && glB sc x && decide (l.length = k.nm.2) && (!k.needT || isTupE t) && mtT T es sc (.es l)
  | _, _, _ => false

def Pl.root : Pl → Nat
  | .nm i => i
  | .ix p _ => p.root
def mts (T : Tab) (sc : Scope) : S → Stmt ⊕ List Stmt → Bool
  | .nil, .inr [] => true
  | .cons s ss, .inr (x :: xs) => mts T sc s (.inl x) && mts T sc ss (.inr xs)
  | .pass, .inl (.Pass _) => true
  | .set tg e, .inl (.Assign [t] v _) => mtg T sc tg (.inl t) && mtT T e sc (.ex v) && plainSet sc t v
  | .setC i e, .inl (.Assign [.Name y py] v _) => decide (T.N[i]? = some y) && swB sc y py v && mt T e sc (.ex v)
  | .setCK i e, .inl (.Assign [.Name y py] v _) => decide (T.N[i]? = some y) && swB sc y py v && mt T e sc (.ex v)
  | .setCO i e, .inl (.Assign [.Name y py] v _) => decide (T.N[i]? = some y) && swB sc y py v && mt T e sc (.ex v)
  | .setCX i e, .inl (.Assign [.Name y py] v _) => decide (T.N[i]? = some y) && swB sc y py v && mt T e sc (.ex v)
  | .retCX e, .inl (.Return (some x) _) => mt T e sc (.ex x) && !(noComp x)
  | .app p e, .inl (.Expr (.Call (.Attribute o nm ap) [x] [] cp) _) => decide (nm = "append") && (ap.endLine == cp.line) && mtp T sc p o && notStar x && mtT T e sc (.ex x)
  | .ins p i e, .inl (.Expr (.Call (.Attribute o nm ap) [z, x] [] cp) _) => decide (nm = "insert") && (ap.endLine == cp.line) && mtp T sc p o && notStar z && notStar x && mt T i sc (.ex z) && mtT T e sc (.ex x)
  | .clr p, .inl (.Expr (.Call (.Attribute o nm ap) [] [] cp) _) => decide (nm = "clear") && (ap.endLine == cp.line) && mtp T sc p o
  | .pop p, .inl (.Expr (.Call (.Attribute o nm ap) [] [] cp) _) => decide (nm = "pop") && (ap.endLine == cp.line) && mtp T sc p o
  | .setPop i p, .inl (.Assign [.Name y _] (.Call (.Attribute o nm ap) [] [] cp) _) => decide (nm = "pop") && (ap.endLine == cp.line) && mtp T sc p o && decide (T.N[i]? = some y) && locB sc y
  | .setIx p i e, .inl (.Assign [.Subscript o z _] v _) => mtp T sc p o && !(isSlice z) && mt T i sc (.ex z) && mtT T e sc (.ex v) && noComp v
  | .par i j a b, .inl (.Assign [.Tuple [.Name x px, .Name y py] _ _] (.Tuple [u, v] _ _) _) => decide (T.N[i]? = some x) && decide (T.N[j]? = some y) && parB sc x y px py u v && mtT T a sc (.ex u) && mtT T b sc (.ex v)
  | .aug i e, .inl (.AugAssign (.Name y _) .Add v _) => decide (T.N[i]? = some y) && locB sc y && mt T e sc (.ex v)
  | .ife c a b, .inl (.If t as bs _) => mt T c sc (.ex t) && mts T sc a (.inr as) && mts T sc b (.inr bs)
  | .whl c b, .inl (.While t bs [] _) => mt T c sc (.ex t) && mts T sc b (.inr bs)
  | .fr tg m b, .inl (.For t it bs [] _) => mtg T sc tg (.inl t) && mtI T sc m t it && mts T sc b (.inr bs)
  | .fclr tg p q, .inl (.For t it [.Expr (.Call (.Attribute o nm ap) [] [] cp) _] [] _) => mtg T sc tg (.inl t) && mtp T sc p it && decide (nm = "clear") && (ap.endLine == cp.line) && mtp T sc q o && decide (p.root ∉ tg.slots)
  | .fapp tg p q i, .inl (.For t it [.Expr (.Call (.Attribute o nm ap) [.Constant (.int j) _ _] [] cp) _] [] _) => mtg T sc tg (.inl t) && mtp T sc p it && decide (nm = "append") && (ap.endLine == cp.line) && mtp T sc q o && decide (p.root ∉ tg.slots) && decide (i = j)
  | .fappE i j p, .inl (.For (.Tuple [.Name x px, .Name y py] kt tp) (.Call (.Name en ep) [it] [] cp0) [.Expr (.Call (.Attribute (.Name y2 py2) nm ap) [.Name x2 px2] [] cp) _] [] _) => decide (en = "enumerate") && glB sc en && mtg T sc (.tup (.cons (.nm i) (.cons (.nm j) .nil))) (.inl (.Tuple [.Name x px, .Name y py] kt tp)) && mtp T sc p it && notStar it && decide (nm = "append") && (ap.endLine == cp.line) && mtp T sc (.nm j) (.Name y2 py2) && mtp T sc (.nm i) (.Name x2 px2) && decide (p.root ≠ i) && decide (p.root ≠ j) && decide (i ≠ j)
  | .swp2 p i j e, .inl (.Assign [.Tuple [.Subscript o1 z1 _, .Subscript o2 z2 _] _ _] v _) => mtp T sc p o1 && !(isSlice z1) && mt T i sc (.ex z1) && mtp T sc p o2 && !(isSlice z2) && mt T j sc (.ex z2) && mtT T e sc (.ex v) && noComp v
  | .popAt p i, .inl (.Expr (.Call (.Attribute o nm ap) [z] [] cp) _) => decide (nm = "pop") && (ap.endLine == cp.line) && mtp T sc p o && notStar z && mt T i sc (.ex z)
  | .scope U s, .inl st => mts T sc s (.inl st) && U.all (fun i => decide (i ∉ s.sets))
  | .frO i tg b, .inl (.For t it bs [] _) => mtg T sc tg (.inl t) && mtp T sc (.nm i) it && mts T sc b (.inr bs) && decide (i ∉ tg.slots) && decide (i ∉ b.sets)
  | .tryk i e b, .inl (.Try bs [.ExceptHandler (some (.Name x _)) (some m) [.Assign [.Name y _] (.Name m2 _) _] _] [] [] _) => decide (x = "TurnError") && glB sc x && decide (m = m2) && decide (T.N[e]? = some m) && decide (sc.names.lookup m = some .local) && okNm m && decide (T.N[i]? = some y) && locB sc y && T.ex && mts T sc b (.inr bs)
  | .ret e, .inl (.Return (some x) _) => mtT T e sc (.ex x)
  | .retN, .inl (.Return none _) => true
  | .drop e, .inl (.Expr x _) => mtT T e sc (.ex x) && noComp x
  | .rais c, .inl (.Raise (some (.Call (.Name x _) [.Constant (.str _) _ _] [] _)) none _) => decide (x = c) && decide (c ∈ T.excs) && glB sc x
  | _, _ => false

structure Sok (T : Tab) (Φ : Fn) (γ : Gn) (XW : XWs) (sc : Scope) (X : Cx) : Prop where
  c : Cok T Φ γ XW sc X
  same : X.env.scope = sc
  bk : X.env.blockKind = .function
  po : PassesOwn (model X.prog X.w) X.A X.env X.xe
  tk : Takes X (fun cls d σ H => ∃ c C, cls = .ref C ∧ d = none ∧ X.mg c = some (.ref C) ∧ XW c σ H)
  exf : ∀ x, x ∈ T.excs → ExF X.K X.mg x
  stk : X.stack = X.env :: X.outer
  frm : X.env.frame = some X.env.locals
  exn : X.ex = []
theorem Sok.rais {T : Tab} {Φ : Fn} {γ : Gn} {XW : XWs} {sc : Scope} {X : Cx} (C : Sok T Φ γ XW sc X) : ∀ cl, cl ∈ T.excs → Gl X cl → ∀ p m j p2 pos pos', PS X (.Raise (some (.Call (.Name cl p) [.Constant (.str m) j p2] [] pos)) none pos') fun _ σ H => XW cl σ H := fun cl hc hg p m j p2 pos pos' => by
  obtain ⟨⟨C', h1, h2, h3, h4, h5⟩, nd⟩ := C.exf cl hc
  exact ⟨fun pins s σ H D I q => (ps_raise C.c.calm C.tk (pmk_own PySem.F.excBase_ValueError h2 h1 h3 (raises_own h4 h5) hg nd)).run pins s σ H D I ⟨cl, C', rfl, rfl, h1, q⟩⟩

section
variable (K : PySem.W.Frag) (n : Nat) (Φ : Fn) (γ : Gn) (fu : Nat) (XW : XWs) (FB : Bs) (HB : Hp)
def Ko (ws : List V) (Tm : List D) (D : Ends) : O → Prop
  | .next δ' => ∀ σ' F' H', Rs K n FB HB F' H' σ' δ' ws Tm → D.nx σ' H'
  | .ret d => ∀ v F' H' S, Ext FB.f HB F' H' → Rep K F' H' d v S → Fresh HB S → D.rt v H'
  | .exc c δ' => ∀ σ' F' H', Rs K n FB HB F' H' σ' δ' ws Tm → XW c σ' H'
  | .bad => False
def tS (s : S) : TS := fun D σ H => ∃ F δ ws Tm, Rs K n FB HB F H σ δ ws Tm ∧ Ko K n XW FB HB ws Tm D (exec Φ γ fu s δ)
end

theorem _root_.L2.PS.of {X : Cx} {st : Stmt} {t t' : TS} (h : PS X st t) (k : ∀ D σ H, t' D σ H → t D σ H) : PS X st t' := ⟨fun pins s σ H D I q => h.run pins s σ H D I (k _ _ _ q)⟩
theorem _root_.L2.PSs.of {X : Cx} {st : List Stmt} {t t' : TS} (h : PSs X st t) (k : ∀ D σ H, t' D σ H → t D σ H) : PSs X st t' := ⟨fun pins s σ H D I q => h.run pins s σ H D I (k _ _ _ q)⟩

section
variable {K : PySem.W.Frag} {n : Nat} {XW : XWs} {FB : Bs} {HB F H : Hp} {σ : St} {δ : List D} {ws : List V} {Tm : List D} {D' : Ends}
theorem ko_of (R : Rs K n FB HB F H σ δ ws Tm) {r : Mn.R (List D)} (h : Ko K n XW FB HB ws Tm D' (O.of δ r)) : Kg (fun c => XW c σ) H r fun δ' => ∀ σ' F' H', Rs K n FB HB F' H' σ' δ' ws Tm → D'.nx σ' H' := by
  cases r with
  | ok δ' => exact h
  | exc c => exact fun H' s => h σ F H' (R.grow s)
  | bad => exact h
theorem ko_thn {o : O} {f : List D → O} (h : Ko K n XW FB HB ws Tm D' (o.thn f)) : Ko K n XW FB HB ws Tm { D' with nx := fun σ' H' => ∃ F' δ', Rs K n FB HB F' H' σ' δ' ws Tm ∧ Ko K n XW FB HB ws Tm D' (f δ') } o := by
  cases o with
  | next δ' => exact fun σ' F' H' R => ⟨F', δ', R, h⟩
  | ret d => exact h
  | exc c δ' => exact h
  | bad => exact h
theorem ko_nx {o : O} {nx' : St → Hp → Prop} (h : Ko K n XW FB HB ws Tm D' o) (k : ∀ σ H, D'.nx σ H → nx' σ H) {bk ct : St → Hp → Prop} : Ko K n XW FB HB ws Tm { nx := nx', rt := D'.rt, bk := bk, ct := ct } o := by
  cases o with
  | next δ' => exact fun σ' F' H' R => k _ _ (h σ' F' H' R)
  | ret d => exact h
  | exc c δ' => exact h
  | bad => exact h
/-- temporaries are dropped at the end -/
theorem ko_drops {us : List V} {ds : List D} (hl : us.length = ds.length) {o : O} (h : Ko K n XW FB HB ws Tm D' o) : Ko K n XW FB HB (us ++ ws) (ds ++ Tm) D' o := by
  cases o with
  | next δ' => exact fun σ' F' H' R => h σ' F' H' (R.drops hl)
  | ret d => exact h
  | exc c δ' => exact fun σ' F' H' R => h σ' F' H' (R.drops hl)
  | bad => exact h
end
theorem asg_nx {fz : Bool} : ∀ (tg : Tg) {ds δ : List D} {c : Str}, asg fz tg ds δ ≠ .exc c := by
  intro tg
  induction tg with
  | nm i => intro ds δ c h; rcases ds with _ | ⟨d, _ | ⟨e, ds⟩⟩ <;> simp [asg] at h
  | tup ts ih =>
    intro ds δ c h
    rcases ds with _ | ⟨d, _ | ⟨e, ds⟩⟩ <;> first | (simp [asg] at h; done) | skip
    cases d <;> first | (simp [asg] at h; done) | skip
    all_goals
      simp only [asg] at h
      exact ih h
  | nil => intro ds δ c h; cases ds <;> simp [asg] at h
  | cons t ts i1 i2 =>
    intro ds δ c h
    cases ds with
    | nil => simp [asg] at h
    | cons d ds =>
      simp only [asg] at h
      cases e : asg fz t [d] δ with
      | ok δ1 => rw [e] at h; exact i2 h
      | exc c' => exact i1 e
      | bad => rw [e] at h; cases h
theorem own_nx {δ : List D} {p : Pl} {c : Str} : ownAt δ p ≠ .exc c := by
  unfold ownAt
  split <;> exact fun z => nomatch z

section
variable {T : Tab} {Φ : Fn} {γ : Gn} {fu : Nat} {XW : XWs} {sc : Scope} {X : Cx} {FB : Bs} {HB : Hp}
theorem sw_non {v : Expr} (h : noComp v = true) (t : Option Expr) (l : Nat) (env : Env) : swapsWith v t l env = pure false := by
  cases v <;> first | rfl | (simp [noComp] at h)
theorem sw_eval (hs : X.env.scope = sc) (hb : X.env.blockKind = .function) {y : Str} {py : Pos} {e : Expr} {gs : List Comprehension} {s : Scope} {lp : Pos} (l : Nat) : swapsWith (.ListComp e gs s lp) (some (.Name y py)) l X.env = pure (swB sc y py (.ListComp e gs s lp)) := by
  have hk : X.env.kindOf y = sc.names.lookup y := by rw [← hs]; rfl
  have h1 : (sc.names.lookup y == some NameKind.local) = decide (sc.names.lookup y = some .local) := by
    cases sc.names.lookup y with
    | none => rfl
    | some k => cases k <;> rfl
  have h2 : (py.line == lp.line) = decide (py.line = lp.line) := by by_cases e : py.line = lp.line <;> simp [e]
  show (pure (X.env.blockKind == .function && X.env.kindOf y == some .local && py.line == lp.line && !(s.names.any fun p => p.1 == y && (p.2 == .local || p.2 == .cell))) : Sem Bool) = _
  rw [hk, hb, h1, h2]
  rfl
theorem sw_name (hs : X.env.scope = sc) (hb : X.env.blockKind = .function) {y : Str} {py : Pos} {v : Expr} (h : plainSet sc (.Name y py) v = true) (l : Nat) : swapsWith v (some (.Name y py)) l X.env = pure false := by
  simp only [plainSet, Bool.or_eq_true] at h
  rcases h with h | h
  · exact sw_non h _ _ _
  · split at h <;> first | (cases h; done) | skip
    simp only [Bool.not_eq_true'] at h
    rw [sw_eval hs hb, h]
theorem sw_tup {ts : List Expr} {k : Nat} {p : Pos} {v : Expr} (h : noTup v = true ∧ noComp v = true) (l : Nat) (env : Env) : swapsWith v (some (.Tuple ts k p)) l env = pure false ∧ swappedStores [.Tuple ts k p] v env = pure none := by
  refine ⟨sw_non h.2 _ _ _, ?_⟩
  cases v <;> first | rfl | (simp [noTup] at h)

variable (T Φ γ fu XW FB HB) in
abbrev tSx (X : Cx) (s : S) : TS := tS X.K T.N.length Φ γ fu XW FB HB s
theorem s_set (C : Sok T Φ γ XW sc X) (tg : Tg) (e : M) (hp : ∀ k, k ∈ (tg.slots : List Nat) → FB.pn k = none) {st : Stmt} (h : mts T sc (.set tg e) (.inl st) = true) : PS X st (tSx T Φ γ fu XW FB HB X (.set tg e)) := by
  cases st <;> first | (simp [mts] at h; done) | skip
  rename_i ts v pos
  rcases ts with _ | ⟨t, _ | ⟨t2, ts⟩⟩ <;> first | (simp [mts] at h; done) | skip
  simp only [mts, Bool.and_eq_true] at h
  obtain ⟨⟨h1, h2⟩, h3⟩ := h
  have side : swapsWithSole [t] v pos.line X.env = pure false ∧ swappedStores [t] v X.env = pure none ∧ (assignEach [t] X.env).map (·.2) = [assign t X.env] := by
    cases t <;> first | (simp [plainSet] at h3; done) | skip
    · exact ⟨sw_name C.same C.bk h3 pos.line, rfl, rfl⟩
    · rename_i es kk tp
      simp only [plainSet, Bool.and_eq_true] at h3
      have := sw_tup (k := kk) (p := tp) (ts := es) h3 pos.line X.env
      exact ⟨this.1, this.2, rfl⟩
  refine (ps_asg ((pt_all (FB := FB) (HB := HB) C.c e).1 v h2) ((pg_ok C.c tg).1 t h1) side.1 side.2.1 side.2.2).of fun D σ H ⟨F, δ, ws, Tm, R, k⟩ => ?_
  simp only [exec] at k
  refine ⟨F, δ, ws, Tm, R, kg_bind (ko_of R k) (.refl _) fun y hy k1 v F1 H1 sm R1 => ?_⟩
  have k2 : Kg _ H (asg false tg [y.1] y.2) _ := k1
  cases ea : asg false tg [y.1] y.2 with
  | ok δ2 =>
    rw [ea] at k2
    exact asg_own tg ea hp rfl R1 _ fun σ' R' => k2 σ' F1 H1 R'
  | exc c => exact absurd ea (asg_nx tg)
  | bad => rw [ea] at k2; exact k2.elim
theorem par_sw {env : Env} {sc : Scope} (hs : env.scope = sc) (hb : env.blockKind = .function) {x y : Str} {px py pt pt2 : Pos} {k k2 : Nat} {u v : Expr} (h : parB sc x y px py u v = true) :
    swappedStores [.Tuple [.Name x px, .Name y py] k pt] (.Tuple [u, v] k2 pt2) env = pure (some [x, y]) := by
  unfold parB at h
  simp only [Bool.and_eq_true, Bool.not_eq_true', decide_eq_true_eq, beq_iff_eq] at h
  obtain ⟨⟨⟨⟨⟨⟨⟨h1, h2⟩, h3⟩, h4⟩, h5⟩, h6⟩, h7⟩, h8⟩ := h
  subst hs
  have kx : env.kindOf x = some .local := h4
  have ky : env.kindOf y = some .local := h5
  have ne : ([x, y] : List Str).eraseDups.length = 2 := by
    have : (y == x) = false := by simpa using fun e => h6 e.symm
    simp [List.eraseDups_cons, this]
  unfold swappedStores
  have p1 : (Expr.Name x px).pos.line = px.line := rfl
  simp [hb, kx, ky, p1, h3, ne, h7, h8]
  intro z
  exfalso
  rcases z with z | z
  · cases u <;> first | (simp [notStar] at h1; done) | (simp at z; done)
  · cases v <;> first | (simp [notStar] at h2; done) | (simp at z; done)
theorem s_par (C : Sok T Φ γ XW sc X) (i j : Nat) (a b : M) (hp : ∀ k, k ∈ ([i, j] : List Nat) → FB.pn k = none) {st : Stmt} (h : mts T sc (.par i j a b) (.inl st) = true) : PS X st (tSx T Φ γ fu XW FB HB X (.par i j a b)) := by
  cases st <;> first | (simp [mts] at h; done) | skip
  rename_i ts v pos
  rcases ts with _ | ⟨t, _ | ⟨t2, ts⟩⟩ <;> first | (simp [mts] at h; done) | skip
  cases t <;> first | (simp [mts] at h; done) | skip
  rename_i ns kt pt
  rcases ns with _ | ⟨n1, _ | ⟨n2, _ | ⟨n3, ns⟩⟩⟩ <;> first | (simp [mts] at h; done) | skip
  all_goals cases n1 <;> first | (simp [mts] at h; done) | skip
  rename_i x px
  cases n2 <;> first | (simp [mts] at h; done) | skip
  rename_i y py
  cases v <;> first | (simp [mts] at h; done) | skip
  rename_i vs k2 pt2
  rcases vs with _ | ⟨u, _ | ⟨v, _ | ⟨v3, vs⟩⟩⟩ <;> first | (simp [mts] at h; done) | skip
  simp only [mts, Bool.and_eq_true, decide_eq_true_eq] at h
  obtain ⟨⟨⟨⟨h1, h2⟩, h3⟩, h4⟩, h5⟩ := h
  have h3' := h3
  unfold parB at h3'
  simp only [Bool.and_eq_true, Bool.not_eq_true', decide_eq_true_eq, beq_iff_eq] at h3'
  obtain ⟨⟨⟨⟨⟨⟨⟨q1, q2⟩, q3⟩, q4⟩, q5⟩, q6⟩, q7⟩, q8⟩ := h3'
  have hij : i ≠ j := fun e => q6 (by rw [e, h2] at h1; exact (Option.some.inj h1).symm)
  have pa := (pt_all (FB := FB) (HB := HB) C.c (.cons a (.cons b .nil))).2 [u, v] (by simp only [mtT, Bool.and_eq_true]; exact ⟨⟨q1, h4⟩, ⟨q2, h5⟩, trivial⟩)
  refine (ps_par (i := i) (j := j) C.c.calm C.c.nd (by rw [C.c.nN]; exact h1) (by rw [C.c.nN]; exact h2) hij (by rw [C.same]; exact q4) (by rw [C.same]; exact q5) pa (par_sw C.same C.bk h3)).of fun D σ H ⟨F, δ, ws, Tm, R, k⟩ => ?_
  simp only [exec] at k
  refine ⟨F, δ, ws, Tm, R, ?_⟩
  simp only [evT]
  cases ea : evT Φ γ a δ with
  | exc c => rw [ea] at k; exact fun H' s => k σ F H' (R.grow s)
  | bad => rw [ea] at k; exact k.elim
  | ok y1 =>
    obtain ⟨d1, δ1⟩ := y1
    rw [ea] at k
    simp only [Mn.R.bind_ok] at k ⊢
    cases eb : evT Φ γ b δ1 with
    | exc c => rw [eb] at k; exact fun H' s => k σ F H' (R.grow s)
    | bad => rw [eb] at k; exact k.elim
    | ok y2 =>
      obtain ⟨d2, δ2⟩ := y2
      rw [eb] at k
      simp only [Mn.R.bind_ok, tupOf] at k ⊢
      refine ⟨[d1, d2], rfl, fun us F' H' hl sm R1 => ?_⟩
      rcases us with _ | ⟨v1, _ | ⟨v2, _ | ⟨v3, us⟩⟩⟩ <;> first | (simp at hl; done) | skip
      refine ⟨v1, v2, rfl, ?_⟩
      have g := asg_own (.cons (.nm i) (.cons (.nm j) .nil)) (ds := [d1, d2]) (vs := [v1, v2]) (δ' := (δ2.set i d1).set j d2) rfl (by simpa [Tg.slots] using hp) rfl R1 (fun σ' H' => D.nx σ' H') (fun σ' R' => k σ' F' H' R')
      obtain ⟨w1, r1, e1, g⟩ := g
      cases e1
      obtain ⟨w1', e1, g⟩ := g
      cases e1
      obtain ⟨w2, r2, e2, g⟩ := g
      cases e2
      obtain ⟨w2', e2, g⟩ := g
      cases e2
      exact g.2
theorem s_setC (C : Sok T Φ γ XW sc X) (i : Nat) (e : M) (hp : ∀ k, k ∈ ([i] : List Nat) → FB.pn k = none) {st : Stmt} (h : mts T sc (.setC i e) (.inl st) = true) : PS X st (tSx T Φ γ fu XW FB HB X (.setC i e)) := by
  cases st <;> first | (simp [mts] at h; done) | skip
  rename_i ts v spos
  rcases ts with _ | ⟨t, _ | ⟨t2, ts⟩⟩ <;> first | (simp [mts] at h; done) | skip
  cases t <;> first | (simp [mts] at h; done) | skip
  rename_i y py
  simp only [mts, Bool.and_eq_true, decide_eq_true_eq] at h
  obtain ⟨⟨hN, hsw⟩, hm⟩ := h
  cases v <;> first | (simp [swB] at hsw; done) | skip
  rename_i el gs scope pos
  have hsw2 := hsw
  simp only [swB, Bool.and_eq_true, decide_eq_true_eq] at hsw2
  have hyl : X.env.scope.names.lookup y = some .local := by rw [C.same]; exact hsw2.1.1
  have hsx : swapsWith (.ListComp el gs scope pos) (some (.Name y py)) spos.line X.env = pure true := by rw [sw_eval C.same C.bk, hsw]
  cases e <;> first | (simp [mt] at hm; done) | skip
  rename_i elt tg iter cond own
  rcases gs with _ | ⟨⟨t, it, ifs, k⟩, _ | ⟨g2, gs⟩⟩ <;> first | (simp [mt] at hm; done) | skip
  simp only [mt, Bool.and_eq_true, decide_eq_true_eq, List.all_eq_true] at hm
  obtain ⟨⟨⟨⟨⟨⟨rfl, h1⟩, h2⟩, h3⟩, h4⟩, h5⟩, h6⟩ := hm
  obtain ⟨form, nset⟩ := mt_it_form h4
  have hs : ∀ j, j ∈ tg.slots → j ∈ own.map (·.2) := fun j hj => by simpa using h3 j hj
  have Cc := C.c
  have hg : ∀ (s : Shared) (H : Hp) (Ca : Addr) (cl : List (Str × Addr)) (fp : List Addr), PG (X.blk s H scope (compEnvC scope cl Ca X.env) fp) t (fun v => gA X.K tg [v]) := fun s H Ca cl fp => (pg_ok (Cc.blk scope s H Ca cl fp) tg).1 t h2
  have he : ∀ (s : Shared) (H : Hp) (Ca : Addr) (cl : List (Str × Addr)) (fp : List Addr), PE (X.blk s H scope (compEnvC scope cl Ca X.env) fp) el (tE X.K T.N.length Φ γ (fun _ _ _ => False) elt) := fun s H Ca cl fp => (pp_all elt).pe (Cc.blk scope s H Ca cl fp) h5
  have fin : ∀ {D σ H}, tSx T Φ γ fu XW FB HB X (.setC i (.comp elt tg iter cond own)) D σ H → tE X.K T.N.length Φ γ XW (.comp elt tg iter cond own) σ H (fun x H1 => gName i x σ H1 D.nx) := by
    intro D σ H ⟨F, δ, ws, Tm, R, k⟩
    simp only [exec] at k
    refine tX_tE ⟨F, δ, ws, Tm, R, kg_bind (ko_of R k) (.refl _) fun y hy k1 v F1 H1 sm R1 => ?_⟩
    exact k1 _ F1 H1 (R1.put i (hp i (by simp)))
  rcases ifs with _ | ⟨c, _ | ⟨c2, cs⟩⟩
  · have ey : cond = .yes := by cases cond <;> first | rfl | (simp [condB] at h6)
    exact (ps_setLc Cc.calm Cc.nd (by rw [Cc.nN]; exact hN) hyl hsx ((pp_all iter).pi Cc h4) (blk_ok Cc h1) hg (fun _ _ _ _ _ => pts_nil) he (fold_of nset _)).of fun D σ H q => comp_read form hs (.inl ⟨ey, rfl⟩) (fin q)
  · simp only [Bool.and_eq_true] at h6
    exact (ps_setLc Cc.calm Cc.nd (by rw [Cc.nN]; exact hN) hyl hsx ((pp_all iter).pi Cc h4) (blk_ok Cc h1) hg (fun s H Ca cl fp => pts_one ((pp_all cond).pt (Cc.blk scope s H Ca cl fp) h6.2)) he (fold_of nset _)).of fun D σ H q => comp_read form hs (.inr rfl) (fin q)
  · simp at h6

theorem s_setCK (C : Sok T Φ γ XW sc X) (i : Nat) (e : M) (hp : ∀ k, k ∈ ([i] : List Nat) → FB.pn k = none) {st : Stmt} (h : mts T sc (.setCK i e) (.inl st) = true) : PS X st (tSx T Φ γ fu XW FB HB X (.setCK i e)) := by
  cases st <;> first | (simp [mts] at h; done) | skip
  rename_i ts v spos
  rcases ts with _ | ⟨t, _ | ⟨t2, ts⟩⟩ <;> first | (simp [mts] at h; done) | skip
  cases t <;> first | (simp [mts] at h; done) | skip
  rename_i y py
  simp only [mts, Bool.and_eq_true, decide_eq_true_eq] at h
  obtain ⟨⟨hN, hsw⟩, hm⟩ := h
  cases v <;> first | (simp [swB] at hsw; done) | skip
  rename_i el gs scope pos
  have hsw2 := hsw
  simp only [swB, Bool.and_eq_true, decide_eq_true_eq] at hsw2
  have hyl : X.env.scope.names.lookup y = some .local := by rw [C.same]; exact hsw2.1.1
  have hsx : swapsWith (.ListComp el gs scope pos) (some (.Name y py)) spos.line X.env = pure true := by rw [sw_eval C.same C.bk, hsw]
  cases e <;> first | (simp [mt] at hm; done) | skip
  rename_i elt tg iter cond own
  rcases gs with _ | ⟨⟨t, it, ifs, k⟩, _ | ⟨g2, gs⟩⟩ <;> first | (simp [mt] at hm; done) | skip
  simp only [mt, Bool.and_eq_true, decide_eq_true_eq, List.all_eq_true] at hm
  obtain ⟨⟨⟨⟨⟨⟨rfl, h1⟩, h2⟩, h3⟩, h4⟩, h5⟩, h6⟩ := hm
  obtain ⟨form, nset⟩ := mt_it_form h4
  have hs : ∀ j, j ∈ tg.slots → j ∈ own.map (·.2) := fun j hj => by simpa using h3 j hj
  have Cc := C.c
  have hg : ∀ (s : Shared) (H : Hp) (Ca : Addr) (cl : List (Str × Addr)) (fp : List Addr), PG (X.blk s H scope (compEnvC scope cl Ca X.env) fp) t (fun v => gA X.K tg [v]) := fun s H Ca cl fp => (pg_ok (Cc.blk scope s H Ca cl fp) tg).1 t h2
  have he : ∀ (s : Shared) (H : Hp) (Ca : Addr) (cl : List (Str × Addr)) (fp : List Addr), PE (X.blk s H scope (compEnvC scope cl Ca X.env) fp) el (tE X.K T.N.length Φ γ (fun _ _ _ => False) elt) := fun s H Ca cl fp => (pp_all elt).pe (Cc.blk scope s H Ca cl fp) h5
  have fin : ∀ {D σ H}, tSx T Φ γ fu XW FB HB X (.setCK i (.comp elt tg iter cond own)) D σ H → tE X.K T.N.length Φ γ XW (.comp elt tg iter cond own) σ H (fun x H1 => gName i x σ H1 D.nx) := by
    intro D σ H ⟨F, δ, ws, Tm, R, k⟩
    simp only [exec] at k
    refine tK_tE ⟨F, δ, ws, Tm, R, kg_bind (ko_of R k) (.refl _) fun y hy k1 v F1 H1 sm R1 => ?_⟩
    exact k1 _ F1 H1 (R1.put i (hp i (by simp)))
  rcases ifs with _ | ⟨c, _ | ⟨c2, cs⟩⟩
  · have ey : cond = .yes := by cases cond <;> first | rfl | (simp [condB] at h6)
    exact (ps_setLc Cc.calm Cc.nd (by rw [Cc.nN]; exact hN) hyl hsx ((pp_all iter).pi Cc h4) (blk_ok Cc h1) hg (fun _ _ _ _ _ => pts_nil) he (fold_of nset _)).of fun D σ H q => comp_read form hs (.inl ⟨ey, rfl⟩) (fin q)
  · simp only [Bool.and_eq_true] at h6
    exact (ps_setLc Cc.calm Cc.nd (by rw [Cc.nN]; exact hN) hyl hsx ((pp_all iter).pi Cc h4) (blk_ok Cc h1) hg (fun s H Ca cl fp => pts_one ((pp_all cond).pt (Cc.blk scope s H Ca cl fp) h6.2)) he (fold_of nset _)).of fun D σ H q => comp_read form hs (.inr rfl) (fin q)
  · simp at h6

theorem s_setCO (C : Sok T Φ γ XW sc X) (i : Nat) (e : M) (hp : ∀ k, k ∈ ([i] : List Nat) → FB.pn k = none) {st : Stmt} (h : mts T sc (.setCO i e) (.inl st) = true) : PS X st (tSx T Φ γ fu XW FB HB X (.setCO i e)) := by
  cases st <;> first | (simp [mts] at h; done) | skip
  rename_i ts v spos
  rcases ts with _ | ⟨t, _ | ⟨t2, ts⟩⟩ <;> first | (simp [mts] at h; done) | skip
  cases t <;> first | (simp [mts] at h; done) | skip
  rename_i y py
  simp only [mts, Bool.and_eq_true, decide_eq_true_eq] at h
  obtain ⟨⟨hN, hsw⟩, hm⟩ := h
  cases v <;> first | (simp [swB] at hsw; done) | skip
  rename_i el gs scope pos
  have hsw2 := hsw
  simp only [swB, Bool.and_eq_true, decide_eq_true_eq] at hsw2
  have hyl : X.env.scope.names.lookup y = some .local := by rw [C.same]; exact hsw2.1.1
  have hsx : swapsWith (.ListComp el gs scope pos) (some (.Name y py)) spos.line X.env = pure true := by rw [sw_eval C.same C.bk, hsw]
  cases e <;> first | (simp [mt] at hm; done) | skip
  rename_i elt tg iter cond own
  rcases gs with _ | ⟨⟨t, it, ifs, k⟩, _ | ⟨g2, gs⟩⟩ <;> first | (simp [mt] at hm; done) | skip
  simp only [mt, Bool.and_eq_true, decide_eq_true_eq, List.all_eq_true] at hm
  obtain ⟨⟨⟨⟨⟨⟨rfl, h1⟩, h2⟩, h3⟩, h4⟩, h5⟩, h6⟩ := hm
  obtain ⟨form, nset⟩ := mt_it_form h4
  have hs : ∀ j, j ∈ tg.slots → j ∈ own.map (·.2) := fun j hj => by simpa using h3 j hj
  have Cc := C.c
  have hg : ∀ (s : Shared) (H : Hp) (Ca : Addr) (cl : List (Str × Addr)) (fp : List Addr), PG (X.blk s H scope (compEnvC scope cl Ca X.env) fp) t (fun v => gA X.K tg [v]) := fun s H Ca cl fp => (pg_ok (Cc.blk scope s H Ca cl fp) tg).1 t h2
  have he : ∀ (s : Shared) (H : Hp) (Ca : Addr) (cl : List (Str × Addr)) (fp : List Addr), PE (X.blk s H scope (compEnvC scope cl Ca X.env) fp) el (tE X.K T.N.length Φ γ (fun _ _ _ => False) elt) := fun s H Ca cl fp => (pp_all elt).pe (Cc.blk scope s H Ca cl fp) h5
  have fin : ∀ {D σ H}, tSx T Φ γ fu XW FB HB X (.setCO i (.comp elt tg iter cond own)) D σ H → tE X.K T.N.length Φ γ XW (.comp elt tg iter cond own) σ H (fun x H1 => gName i x σ H1 D.nx) := by
    intro D σ H ⟨F, δ, ws, Tm, R, k⟩
    simp only [exec] at k
    refine tO_tE ⟨F, δ, ws, Tm, R, kg_bind (ko_of R k) (.refl _) fun y hy k1 v F1 H1 sm R1 => ?_⟩
    exact k1 _ F1 H1 (R1.put i (hp i (by simp)))
  rcases ifs with _ | ⟨c, _ | ⟨c2, cs⟩⟩
  · have ey : cond = .yes := by cases cond <;> first | rfl | (simp [condB] at h6)
    exact (ps_setLc Cc.calm Cc.nd (by rw [Cc.nN]; exact hN) hyl hsx ((pp_all iter).pi Cc h4) (blk_ok Cc h1) hg (fun _ _ _ _ _ => pts_nil) he (fold_of nset _)).of fun D σ H q => comp_read form hs (.inl ⟨ey, rfl⟩) (fin q)
  · simp only [Bool.and_eq_true] at h6
    exact (ps_setLc Cc.calm Cc.nd (by rw [Cc.nN]; exact hN) hyl hsx ((pp_all iter).pi Cc h4) (blk_ok Cc h1) hg (fun s H Ca cl fp => pts_one ((pp_all cond).pt (Cc.blk scope s H Ca cl fp) h6.2)) he (fold_of nset _)).of fun D σ H q => comp_read form hs (.inr rfl) (fin q)
  · simp at h6

/-! ### comprehensions out of which an exception may come -/
theorem Sok.wish (C : Sok T Φ γ XW sc X) : ∀ (σ : St) (cl : Value) (d : Option Addr) (G : Hp), wishE X.mg (fun c => XW c σ) cl d G → ∃ c C', cl = .ref C' ∧ d = none ∧ X.mg c = some (.ref C') ∧ XW c σ G := fun σ cl d G ⟨h1, c, C', h2, h3, h4⟩ => ⟨c, C', h2, h1, h3, h4⟩
theorem parts_of (Cc : Cok T Φ γ XW sc X) {elt cond : M} {tg : Tg} {el t : Expr} {ifs : List Expr} {scope : Scope} (h2 : mtg T scope tg (.inl t) = true) (h5 : mt T elt scope (.ex el) = true)
    (h6 : (ifs = [] ∧ cond = .yes) ∨ ∃ c, ifs = [c] ∧ mt T cond scope (.ex c) = true) :
    ∃ ttf : St → TT, (∀ σ, (cond = .yes ∧ ttf σ = tYes) ∨ ttf σ = tT X.K T.N.length Φ γ (XW.at σ) cond) ∧ ∀ σ, BlkParts X (wishE X.mg fun c => XW c σ) scope t ifs el (fun v => gA X.K tg [v]) (ttf σ) (tE X.K T.N.length Φ γ (XW.at σ) elt) := by
  rcases h6 with ⟨rfl, rfl⟩ | ⟨c, rfl, h6⟩
  · exact ⟨fun _ => tYes, fun _ => .inl ⟨rfl, rfl⟩, fun σ => ⟨fun s H Ca cl fp xe pass => ⟨(pg_ok (Cc.blkX scope s H Ca cl fp xe σ pass) tg).1 t h2, pts_nil, (pp_all elt).pe (Cc.blkX scope s H Ca cl fp xe σ pass) h5⟩⟩⟩
  · exact ⟨fun σ => tT X.K T.N.length Φ γ (XW.at σ) cond, fun _ => .inr rfl, fun σ => ⟨fun s H Ca cl fp xe pass => ⟨(pg_ok (Cc.blkX scope s H Ca cl fp xe σ pass) tg).1 t h2, pts_one ((pp_all cond).pt (Cc.blkX scope s H Ca cl fp xe σ pass) h6), (pp_all elt).pe (Cc.blkX scope s H Ca cl fp xe σ pass) h5⟩⟩⟩
theorem s_setCX (C : Sok T Φ γ XW sc X) (i : Nat) (e : M) (hp : ∀ k, k ∈ ([i] : List Nat) → FB.pn k = none) {st : Stmt} (h : mts T sc (.setCX i e) (.inl st) = true) : PS X st (tSx T Φ γ fu XW FB HB X (.setCX i e)) := by
  cases st <;> first | (simp [mts] at h; done) | skip
  rename_i ts v spos
  rcases ts with _ | ⟨t, _ | ⟨t2, ts⟩⟩ <;> first | (simp [mts] at h; done) | skip
  cases t <;> first | (simp [mts] at h; done) | skip
  rename_i y py
  simp only [mts, Bool.and_eq_true, decide_eq_true_eq] at h
  obtain ⟨⟨hN, hsw⟩, hm⟩ := h
  cases v <;> first | (simp [swB] at hsw; done) | skip
  rename_i el gs scope pos
  have hsw2 := hsw
  simp only [swB, Bool.and_eq_true, decide_eq_true_eq] at hsw2
  have hyl : X.env.scope.names.lookup y = some .local := by rw [C.same]; exact hsw2.1.1
  have hsx : swapsWith (.ListComp el gs scope pos) (some (.Name y py)) spos.line X.env = pure true := by rw [sw_eval C.same C.bk, hsw]
  cases e <;> first | (simp [mt] at hm; done) | skip
  rename_i elt tg iter cond own
  rcases gs with _ | ⟨⟨t, it, ifs, k⟩, _ | ⟨g2, gs⟩⟩ <;> first | (simp [mt] at hm; done) | skip
  simp only [mt, Bool.and_eq_true, decide_eq_true_eq, List.all_eq_true] at hm
  obtain ⟨⟨⟨⟨⟨⟨rfl, h1⟩, h2⟩, h3⟩, h4⟩, h5⟩, h6⟩ := hm
  obtain ⟨form, nset⟩ := mt_it_form h4
  have hs : ∀ j, j ∈ tg.slots → j ∈ own.map (·.2) := fun j hj => by simpa using h3 j hj
  have Cc := C.c
  have h6' : (ifs = [] ∧ cond = .yes) ∨ ∃ c, ifs = [c] ∧ mt T cond scope (.ex c) = true := by
    rcases ifs with _ | ⟨c, _ | ⟨c2, cs⟩⟩
    · exact .inl ⟨rfl, by cases cond <;> first | rfl | (simp [condB] at h6)⟩
    · simp only [Bool.and_eq_true] at h6
      exact .inr ⟨c, rfl, h6.2⟩
    · simp at h6
  obtain ⟨ttf, ht, parts⟩ := parts_of Cc h2 h5 h6'
  have fin : ∀ {D σ H}, tSx T Φ γ fu XW FB HB X (.setCX i (.comp elt tg iter cond own)) D σ H → tC X.K T.N.length Φ γ XW (.comp elt tg iter cond own) σ H (fun x H1 => gName i x σ H1 D.nx) := by
    intro D σ H ⟨F, δ, ws, Tm, R, k⟩
    simp only [exec] at k
    refine tCX_tC ⟨F, δ, ws, Tm, R, kg_bind (ko_of R k) (.refl _) fun y hy k1 v F1 H1 sm R1 => ?_⟩
    exact k1 _ F1 H1 (R1.put i (hp i (by simp)))
  exact (ps_setLcE Cc.calm Cc.nd C.stk C.frm C.tk (by rw [Cc.nN]; exact hN) hyl hsx ((pp_all iter).pi Cc h4) (blk_ok Cc h1) C.wish parts (fold_of nset _)).of fun D σ H q => comp_readE form hs (ht σ) (fin q)
theorem s_retCX (C : Sok T Φ γ XW sc X) (e : M) {st : Stmt} (h : mts T sc (.retCX e) (.inl st) = true) : PS X st (tSx T Φ γ fu XW FB HB X (.retCX e)) := by
  cases st <;> first | (simp [mts] at h; done) | skip
  rename_i v spos
  cases v <;> first | (simp [mts] at h; done) | skip
  rename_i v
  simp only [mts, Bool.and_eq_true] at h
  obtain ⟨hm, nc⟩ := h
  cases v <;> first | (simp [noComp] at nc; done) | (cases e <;> simp [mt] at hm <;> done) | skip
  rename_i el gs scope pos
  cases e <;> first | (simp [mt] at hm; done) | skip
  rename_i elt tg iter cond own
  rcases gs with _ | ⟨⟨t, it, ifs, k⟩, _ | ⟨g2, gs⟩⟩ <;> first | (simp [mt] at hm; done) | skip
  simp only [mt, Bool.and_eq_true, decide_eq_true_eq, List.all_eq_true] at hm
  obtain ⟨⟨⟨⟨⟨⟨rfl, h1⟩, h2⟩, h3⟩, h4⟩, h5⟩, h6⟩ := hm
  obtain ⟨form, nset⟩ := mt_it_form h4
  have hs : ∀ j, j ∈ tg.slots → j ∈ own.map (·.2) := fun j hj => by simpa using h3 j hj
  have Cc := C.c
  have h6' : (ifs = [] ∧ cond = .yes) ∨ ∃ c, ifs = [c] ∧ mt T cond scope (.ex c) = true := by
    rcases ifs with _ | ⟨c, _ | ⟨c2, cs⟩⟩
    · exact .inl ⟨rfl, by cases cond <;> first | rfl | (simp [condB] at h6)⟩
    · simp only [Bool.and_eq_true] at h6
      exact .inr ⟨c, rfl, h6.2⟩
    · simp at h6
  obtain ⟨ttf, ht, parts⟩ := parts_of Cc h2 h5 h6'
  refine (ps_ret (pe_lcE Cc.calm Cc.nd C.stk C.frm C.tk ((pp_all iter).pi Cc h4) (blk_ok Cc h1) C.wish parts (fold_of nset _))).of fun D σ H ⟨F, δ, ws, Tm, R, k⟩ => comp_readE form hs (ht σ) (tCX_tC ⟨F, δ, ws, Tm, R, ?_⟩)
  simp only [exec] at k
  cases ee : evCX Φ γ (.comp elt tg iter cond own) δ with
  | ok y =>
    rw [ee] at k
    intro v F1 H1 sm R1
    obtain ⟨S, r, f⟩ := R1.top
    exact k v F1 H1 S R1.ex r f
  | exc c =>
    rw [ee] at k
    exact fun H' s => k σ F H' (R.grow s)
  | bad => rw [ee] at k; exact k.elim
/-! ### methods of a list at a place -/
theorem ty_lst {K : PySem.W.Frag} {H : Hp} {a : Addr} {us : List V} (h : H a = some (.lst us)) : tyV K "list" (.ref a) H := .inl ⟨rfl, _, SqL.of h⟩
theorem s_app (C : Sok T Φ γ XW sc X) (p : Pl) (e : M) {st : Stmt} (h : mts T sc (.app p e) (.inl st) = true) : PS X st (tSx T Φ γ fu XW FB HB X (.app p e)) := by
  cases st <;> first | (simp [mts] at h; done) | skip
  rename_i v pos
  cases v <;> first | (simp [mts] at h; done) | skip
  rename_i fn l kw cp
  cases fn <;> first | (simp [mts] at h; done) | skip
  rename_i o nm ap
  rcases l with _ | ⟨x, _ | ⟨x2, l⟩⟩ <;> first | (simp [mts] at h; done) | skip
  cases kw <;> first | (simp [mts] at h; done) | skip
  simp only [mts, Bool.and_eq_true, decide_eq_true_eq] at h
  obtain ⟨⟨⟨⟨rfl, h1⟩, h2⟩, h3⟩, h4⟩ := h
  refine (ps_expr (pe_bm PySem.F.plainAttrs_list PySem.F.slot_list_append PySem.F.type_list_append mt_append (pl_ok C.c p h2) (pa_cons ((pt_all (FB := FB) (HB := HB) C.c e).1 x h4) pa_nil (star_cons h3)) (mtp_base h2 _ _)
    (by rw [star_cons h3]; rfl) h1 (star_cons h3) rfl) rfl).of fun D σ H ⟨F, δ, ws, Tm, R, k⟩ => ?_
  simp only [exec] at k
  have k0 := ko_of R k
  cases e0 : ownAt δ p with
  | exc c => exact absurd e0 own_nx
  | bad => rw [e0] at k0; exact k0.elim
  | ok ds0 =>
  rw [e0] at k0
  obtain ⟨a, us, _, _, _, q1, q2, _⟩ := R.own e0
  refine ⟨.ref a, q1, ty_lst q2, ?_⟩
  refine ⟨F, δ, ws, Tm, R, kg_bind (show Kg _ H (evT Φ γ e δ >>= _) _ from k0) (.refl _) fun y hy k1 v F1 H1 sm R1 => ?_⟩
  cases e1 : ownAt y.2 p with
  | exc c => exact absurd e1 own_nx
  | bad =>
    have k2 : Kg _ H (ownAt y.2 p >>= _) _ := k1
    rw [e1] at k2; exact k2.elim
  | ok ds =>
  have k2 : Kg _ H (ownAt y.2 p >>= _) _ := k1
  rw [e1] at k2
  have k3 : Kg _ H (if ds.length < LIM then Mn.R.ok (setP y.2 p (.lst .own (ds ++ [y.1]))) else Mn.R.bad) _ := k2
  split at k3
  case isFalse => exact k3.elim
  rename_i hz
  obtain ⟨a', us', Sn, So, U, g1, g2, g3, g4, g5, g6, g7, g8, g9, g10⟩ := R1.own e1
  have ea := plV_one sm q1 g1
  cases ea
  refine ⟨a, us', v, rfl, rfl, g2, by rw [g3]; exact hz, ?_⟩
  obtain ⟨v', vr, S1, S2, e', r1, r2, r3, rfl⟩ := reps_uncons g5
  cases e'
  refine k3 σ F1 _ (g10 _ _ ws Tm (Sn ++ S1) S2 (reps_app g4 (reps_one r1) fun b hb hc => (g6 b hb).2.2 (List.mem_append_left _ hc)) r2 (fun b hb => ?_) (fun b hb => g7 b (List.mem_append_right _ hb)) (fun b hb => ?_) fun b hb => g9 b (List.mem_append_right _ hb))
  · rcases List.mem_append.mp hb with z | z
    · exact ⟨(g6 b z).1, (g6 b z).2.1, fun y => (g6 b z).2.2 (List.mem_append_right _ y)⟩
    · exact ⟨(g7 b (List.mem_append_left _ z)).1, (g7 b (List.mem_append_left _ z)).2, r3 b z⟩
  · rcases List.mem_append.mp hb with z | z
    · exact g8 b z
    · exact g9 b (List.mem_append_left _ z)

theorem s_ins (C : Sok T Φ γ XW sc X) (p : Pl) (ix e : M) {st : Stmt} (h : mts T sc (.ins p ix e) (.inl st) = true) : PS X st (tSx T Φ γ fu XW FB HB X (.ins p ix e)) := by
  cases st <;> first | (simp [mts] at h; done) | skip
  rename_i v pos
  cases v <;> first | (simp [mts] at h; done) | skip
  rename_i fn l kw cp
  cases fn <;> first | (simp [mts] at h; done) | skip
  rename_i o nm ap
  rcases l with _ | ⟨z, _ | ⟨x, _ | ⟨x2, l⟩⟩⟩ <;> first | (simp [mts] at h; done) | skip
  cases kw <;> first | (simp [mts] at h; done) | skip
  simp only [mts, Bool.and_eq_true, decide_eq_true_eq] at h
  obtain ⟨⟨⟨⟨⟨⟨rfl, h1⟩, h2⟩, h3⟩, h3'⟩, h4⟩, h5⟩ := h
  refine (ps_expr (pe_bm PySem.F.plainAttrs_list PySem.F.slot_list_insert PySem.F.type_list_insert mt_insert (pl_ok C.c p h2) (pa_cons ((pp_all ix).pe C.c h4) (pa_cons ((pt_all (FB := FB) (HB := HB) C.c e).1 x h5) pa_nil (star_cons h3')) (star_cons h3)) (mtp_base h2 _ _)
    (by rw [star_cons h3, star_cons h3']; rfl) h1 (star_cons h3) (by rw [star_cons h3']; rfl)) rfl).of fun D σ H ⟨F, δ, ws, Tm, R, k⟩ => ?_
  simp only [exec] at k
  have k0 := ko_of R k
  cases e0 : ownAt δ p with
  | exc c => exact absurd e0 own_nx
  | bad => rw [e0] at k0; exact k0.elim
  | ok ds0 =>
  rw [e0] at k0
  obtain ⟨a, us, _, _, _, q1, q2, _⟩ := R.own e0
  refine ⟨.ref a, q1, ty_lst q2, ?_⟩
  have tn : tN X.K T.N.length Φ γ XW FB HB ix σ H (fun x1 H1 => (tCons (tM X.K T.N.length Φ γ XW FB HB e) tNil) σ H1 fun xs H2 => (∃ (l : Addr) (zs : List V) (i : Int) (y : V), V.ref a = .ref l ∧ (x1 :: xs) = [.int i, y] ∧ H2 l = some (.lst zs) ∧ zs.length < sizeLine ∧ 0 ≤ i ∧ i < 2 ^ 63 ∧
      D.nx σ (upd H2 l (.lst (zs.take i.toNat ++ [y] ++ zs.drop i.toNat))))) := by
    refine ⟨F, δ, ws, Tm, R, kg_bind (show Kg _ H (ev Φ γ ix (Mn.D.frzs δ) >>= _) _ from k0) (.refl _) fun d hd k1 => ?_⟩
    cases d <;> first | exact k1.elim | skip
    rename_i i
    refine ⟨i, rfl, fun H1 sm0 R0 => ?_⟩
    refine ⟨F, δ, ws, Tm, R0, kg_bind (show Kg _ H (evT Φ γ e δ >>= _) _ from k1) sm0 fun y hy k1 v F1 H1 sm R1 => ?_⟩
    cases e1 : ownAt y.2 p with
    | exc c => exact absurd e1 own_nx
    | bad =>
      have k2 : Kg _ H (ownAt y.2 p >>= _) _ := k1
      rw [e1] at k2; exact k2.elim
    | ok ds =>
    have k2 : Kg _ H (ownAt y.2 p >>= _) _ := k1
    rw [e1] at k2
    have k3 : Kg _ H (if ds.length < LIM ∧ 0 ≤ i ∧ i < 2 ^ 63 then Mn.R.ok (setP y.2 p (.lst .own (ds.take i.toNat ++ [y.1] ++ ds.drop i.toNat))) else Mn.R.bad) _ := k2
    split at k3
    case isFalse => exact k3.elim
    rename_i hz
    obtain ⟨a', us', Sn, So, U, g1, g2, g3, g4, g5, g6, g7, g8, g9, g10⟩ := R1.own e1
    have ea := plV_one (sm0.trans sm) q1 g1
    cases ea
    refine ⟨a, us', i, v, rfl, rfl, g2, by rw [g3]; exact hz.1, hz.2.1, hz.2.2, ?_⟩
    obtain ⟨v', vr, S1, S2, e', r1, r2, r3, rfl⟩ := reps_uncons g5
    cases e'
    have sp : Reps X.K F1 H1 (ds.take i.toNat ++ ds.drop i.toNat) us' Sn := by rw [List.take_append_drop]; exact g4
    obtain ⟨ua, ub, Sa, Sb, e2, e3, ra, rb, rab⟩ := reps_split sp
    have e4 : us'.take i.toNat = ua ∧ us'.drop i.toNat = ub := by
      have hl : ua.length = (us'.take i.toNat).length := by
        rw [reps_len ra, List.length_take, List.length_take, g3]
      have := split_len (show us'.take i.toNat ++ us'.drop i.toNat = ua ++ ub by rw [List.take_append_drop]; exact e2) hl.symm
      exact this
    rw [e4.1, e4.2]
    have in1 : ∀ b, b ∈ Sa → b ∈ Sn := fun b hb => by rw [e3]; exact List.mem_append_left _ hb
    have in2 : ∀ b, b ∈ Sb → b ∈ Sn := fun b hb => by rw [e3]; exact List.mem_append_right _ hb
    have no1 : ∀ b, b ∈ Sn → b ∉ S1 := fun b hb hc => (g6 b hb).2.2 (List.mem_append_left _ hc)
    have no2 : ∀ b, b ∈ Sn → b ∉ S2 := fun b hb hc => (g6 b hb).2.2 (List.mem_append_right _ hc)
    have all : ∀ b, b ∈ Sa ++ S1 ++ Sb → b ∈ Sn ∨ b ∈ S1 := fun b hb => by
      simp only [List.mem_append] at hb
      rcases hb with (z | z) | z
      · exact .inl (in1 b z)
      · exact .inr z
      · exact .inl (in2 b z)
    refine k3 σ F1 _ (g10 _ _ ws Tm (Sa ++ S1 ++ Sb) S2 (reps_app (reps_app ra (reps_one r1) fun b hb => no1 b (in1 b hb)) rb fun b hb hc => ?_) r2 (fun b hb => ?_) (fun b hb => g7 b (List.mem_append_right _ hb)) (fun b hb => ?_) fun b hb => g9 b (List.mem_append_right _ hb))
    · rcases List.mem_append.mp hb with z | z
      · exact rab b z hc
      · exact no1 b (in2 b hc) z
    · rcases all b hb with z | z
      · exact ⟨(g6 b z).1, (g6 b z).2.1, no2 b z⟩
      · exact ⟨(g7 b (List.mem_append_left _ z)).1, (g7 b (List.mem_append_left _ z)).2, r3 b z⟩
    · rcases all b hb with z | z
      · exact g8 b z
      · exact g9 b (List.mem_append_left _ z)
  exact tN_tE tn
theorem s_clr (C : Sok T Φ γ XW sc X) (p : Pl) {st : Stmt} (h : mts T sc (.clr p) (.inl st) = true) : PS X st (tSx T Φ γ fu XW FB HB X (.clr p)) := by
  cases st <;> first | (simp [mts] at h; done) | skip
  rename_i v pos
  cases v <;> first | (simp [mts] at h; done) | skip
  rename_i fn l kw cp
  cases fn <;> first | (simp [mts] at h; done) | skip
  rename_i o nm ap
  rcases l with _ | ⟨z, l⟩ <;> first | (simp [mts] at h; done) | skip
  cases kw <;> first | (simp [mts] at h; done) | skip
  simp only [mts, Bool.and_eq_true, decide_eq_true_eq] at h
  obtain ⟨⟨rfl, h1⟩, h2⟩ := h
  refine (ps_expr (pe_bm0 PySem.F.plainAttrs_list PySem.F.slot_list_clear PySem.F.type_list_clear mt_clear (pl_ok C.c p h2) (mtp_base h2 _ _) h1) rfl).of fun D σ H ⟨F, δ, ws, Tm, R, k⟩ => ?_
  simp only [exec] at k
  have k0 := ko_of R k
  cases e0 : ownAt δ p with
  | exc c => exact absurd e0 own_nx
  | bad => rw [e0] at k0; exact k0.elim
  | ok ds0 =>
  rw [e0] at k0
  obtain ⟨a, us, Sn, So, U, g1, g2, g3, g4, g5, g6, g7, g8, g9, g10⟩ := R.own e0
  refine ⟨.ref a, g1, ty_lst g2, a, us, rfl, rfl, g2, ?_⟩
  exact k0 σ F _ (g10 [] [] ws Tm [] U reps_nil' g5 (fun b hb => nomatch hb) g7 .nil g9)
theorem last_split {K : PySem.W.Frag} {F H : Hp} {ds : List D} {us : List V} {S : List Addr} (r : Reps K F H ds us S) {d : D} (h : ds.getLast? = some d) : ∃ v, ∃ S1 S2 : List Addr, us[us.length - 1]? = some v ∧ Reps K F H ds.dropLast us.dropLast S1 ∧ Rep K F H d v S2 ∧ S = S1 ++ S2 ∧ ∀ a, a ∈ S1 → a ∉ S2 := by
  have hne : ds ≠ [] := fun e => by subst e; simp at h
  have e : ds = ds.dropLast ++ [d] := by
    rw [List.getLast?_eq_getLast hne] at h
    cases h
    exact (List.dropLast_concat_getLast hne).symm
  rw [e] at r
  obtain ⟨ua, ub, S1, S2, rfl, rfl, r1, r2, ap⟩ := reps_split r
  obtain ⟨v, rfl, r3⟩ := reps_1 r2
  refine ⟨v, S1, S2, by simp, ?_, r3, rfl, ap⟩
  rw [List.dropLast_concat]
  exact r1
theorem s_pop (C : Sok T Φ γ XW sc X) (p : Pl) {st : Stmt} (h : mts T sc (.pop p) (.inl st) = true) : PS X st (tSx T Φ γ fu XW FB HB X (.pop p)) := by
  cases st <;> first | (simp [mts] at h; done) | skip
  rename_i v pos
  cases v <;> first | (simp [mts] at h; done) | skip
  rename_i fn l kw cp
  cases fn <;> first | (simp [mts] at h; done) | skip
  rename_i o nm ap
  rcases l with _ | ⟨z, l⟩ <;> first | (simp [mts] at h; done) | skip
  cases kw <;> first | (simp [mts] at h; done) | skip
  simp only [mts, Bool.and_eq_true, decide_eq_true_eq] at h
  obtain ⟨⟨rfl, h1⟩, h2⟩ := h
  refine (ps_expr (pe_bm0 PySem.F.plainAttrs_list PySem.F.slot_list_pop PySem.F.type_list_pop mt_pop (pl_ok C.c p h2) (mtp_base h2 _ _) h1) rfl).of fun D σ H ⟨F, δ, ws, Tm, R, k⟩ => ?_
  simp only [exec] at k
  have k0 := ko_of R k
  cases e0 : ownAt δ p with
  | exc c => exact absurd e0 own_nx
  | bad => rw [e0] at k0; exact k0.elim
  | ok ds =>
  rw [e0] at k0
  have k1 : Kg _ H (if ds = [] then Mn.R.bad else Mn.R.ok (setP δ p (.lst .own ds.dropLast))) _ := k0
  split at k1
  · exact k1.elim
  · rename_i hne
    obtain ⟨a, us, Sn, So, U, g1, g2, g3, g4, g5, g6, g7, g8, g9, g10⟩ := R.own e0
    obtain ⟨v, S1, S2, j1, j2, j3, rfl, j5⟩ := last_split g4 (List.getLast?_eq_getLast hne)
    refine ⟨.ref a, g1, ty_lst g2, a, us, v, rfl, rfl, g2, j1, ?_⟩
    exact k1 σ F _ (g10 _ _ ws Tm S1 U j2 g5 (fun b hb => g6 b (List.mem_append_left _ hb)) g7 (fun b hb => g8 b (List.mem_append_left _ hb)) g9)
theorem s_setPop (C : Sok T Φ γ XW sc X) (i : Nat) (p : Pl) (hp : ∀ k, k ∈ ([i] : List Nat) → FB.pn k = none) {st : Stmt} (h : mts T sc (.setPop i p) (.inl st) = true) : PS X st (tSx T Φ γ fu XW FB HB X (.setPop i p)) := by
  cases st <;> first | (simp [mts] at h; done) | skip
  rename_i ts v pos
  rcases ts with _ | ⟨t, _ | ⟨t2, ts⟩⟩ <;> first | (simp [mts] at h; done) | skip
  cases t <;> first | (simp [mts] at h; done) | skip
  rename_i y py
  cases v <;> first | (simp [mts] at h; done) | skip
  rename_i fn l kw cp
  cases fn <;> first | (simp [mts] at h; done) | skip
  rename_i o nm ap
  rcases l with _ | ⟨z, l⟩ <;> first | (simp [mts] at h; done) | skip
  cases kw <;> first | (simp [mts] at h; done) | skip
  simp only [mts, Bool.and_eq_true, decide_eq_true_eq] at h
  obtain ⟨⟨⟨⟨rfl, h1⟩, h2⟩, h3⟩, h4⟩ := h
  obtain ⟨l1, l2⟩ := C.c.loc h4
  refine (ps_set (i := i) C.c.nd (by rw [C.c.nN]; exact h3) l1 (pe_bm0 PySem.F.plainAttrs_list PySem.F.slot_list_pop PySem.F.type_list_pop mt_pop (pl_ok C.c p h2) (mtp_base h2 _ _) h1) rfl l2).of fun D σ H ⟨F, δ, ws, Tm, R, k⟩ => ?_
  simp only [exec] at k
  have k0 := ko_of R k
  cases e0 : ownAt δ p with
  | exc c => exact absurd e0 own_nx
  | bad => rw [e0] at k0; exact k0.elim
  | ok ds =>
  rw [e0] at k0
  obtain ⟨a, us, Sn, So, U, g1, g2, g3, g4, g5, g6, g7, g8, g9, g10⟩ := R.own e0
  cases el : ds.getLast? with
  | none =>
    simp only [Mn.R.bind_ok, el] at k0
    exact k0.elim
  | some d =>
    simp only [Mn.R.bind_ok, el] at k0
    obtain ⟨v, S1, S2, j1, j2, j3, rfl, j5⟩ := last_split g4 el
    refine ⟨.ref a, g1, ty_lst g2, a, us, v, rfl, rfl, g2, j1, ?_⟩
    have R2 := g10 ds.dropLast us.dropLast (v :: ws) (d :: Tm) S1 (S2 ++ U) j2 (reps_cons j3 g5 fun b hb => (g6 b (List.mem_append_right _ hb)).2.2)
      (fun b hb => ⟨(g6 b (List.mem_append_left _ hb)).1, (g6 b (List.mem_append_left _ hb)).2.1, fun z => (List.mem_append.mp z).elim (j5 b hb) (g6 b (List.mem_append_left _ hb)).2.2⟩)
      (fun b hb => (List.mem_append.mp hb).elim (fun z => ⟨(g6 b (List.mem_append_right _ z)).1, (g6 b (List.mem_append_right _ z)).2.1⟩) (g7 b))
      (fun b hb => g8 b (List.mem_append_left _ hb)) (fun b hb => (List.mem_append.mp hb).elim (fun z => g8 b (List.mem_append_right _ z)) (g9 b))
    exact k0 _ F _ (R2.put i (hp i (by simp)))
theorem s_aug (C : Sok T Φ γ XW sc X) (i : Nat) (e : M) (hp : ∀ k, k ∈ ([i] : List Nat) → FB.pn k = none) {st : Stmt} (h : mts T sc (.aug i e) (.inl st) = true) : PS X st (tSx T Φ γ fu XW FB HB X (.aug i e)) := by
  cases st <;> first | (simp [mts] at h; done) | skip
  rename_i t op v pos
  cases t <;> first | (simp [mts] at h; done) | skip
  rename_i y py
  cases op <;> first | (simp [mts] at h; done) | skip
  simp only [mts, Bool.and_eq_true, decide_eq_true_eq] at h
  obtain ⟨⟨h1, h2⟩, h3⟩ := h
  obtain ⟨l1, l2⟩ := C.c.loc h2
  refine (ps_aug (i := i) C.c.nd (by rw [C.c.nN]; exact h1) l1 ((pp_all e).pe C.c h3) ip_add l2).of fun D σ H ⟨F, δ, ws, Tm, R, k⟩ => ?_
  simp only [exec] at k
  have k0 := ko_of R k
  cases ed : getD' δ i <;> (rw [ed] at k0) <;> first | exact k0.elim | skip
  rename_i x
  obtain ⟨v, h5, R2⟩ := R.take ed (fun z => nomatch z)
  obtain ⟨Sx, rx, _⟩ := R2.top
  obtain ⟨rfl, _⟩ := rep_int rx
  refine ⟨.int x, h5, tN_tE ⟨F, δ, ws, Tm, R, kg_bind (show Kg _ H (ev Φ γ e (Mn.D.frzs δ) >>= _) _ from k0) (.refl _) fun d hd k1 => ?_⟩⟩
  cases d <;> first | exact k1.elim | skip
  rename_i j
  refine ⟨j, rfl, fun H1 sm R1 => ⟨x, j, rfl, rfl, ?_⟩⟩
  exact k1 _ F H1 ((R1.flat (x + j)).put i (hp i (by simp)))
theorem s_drop (C : Sok T Φ γ XW sc X) (e : M) {st : Stmt} (h : mts T sc (.drop e) (.inl st) = true) : PS X st (tSx T Φ γ fu XW FB HB X (.drop e)) := by
  cases st <;> first | (simp [mts] at h; done) | skip
  rename_i v pos
  simp only [mts, Bool.and_eq_true] at h
  refine (ps_expr ((pt_all (FB := FB) (HB := HB) C.c e).1 v h.1) (sw_non h.2 _ _ _)).of fun D σ H ⟨F, δ, ws, Tm, R, k⟩ => ?_
  simp only [exec] at k
  exact ⟨F, δ, ws, Tm, R, kg_bind (ko_of R k) (.refl _) fun y hy k1 v F1 H1 sm R1 => k1 σ F1 H1 R1.drop⟩
theorem s_ret (C : Sok T Φ γ XW sc X) (e : M) {st : Stmt} (h : mts T sc (.ret e) (.inl st) = true) : PS X st (tSx T Φ γ fu XW FB HB X (.ret e)) := by
  cases st <;> first | (simp [mts] at h; done) | skip
  rename_i v pos
  cases v <;> first | (simp [mts] at h; done) | skip
  rename_i v
  simp only [mts] at h
  refine (ps_ret ((pt_all (FB := FB) (HB := HB) C.c e).1 v h)).of fun D σ H ⟨F, δ, ws, Tm, R, k⟩ => ?_
  simp only [exec] at k
  refine ⟨F, δ, ws, Tm, R, ?_⟩
  cases ee : evT Φ γ e δ with
  | ok y =>
    rw [ee] at k
    intro v F1 H1 sm R1
    obtain ⟨S, r, f⟩ := R1.top
    exact k v F1 H1 S R1.ex r f
  | exc c =>
    rw [ee] at k
    exact fun H' s => k σ F H' (R.grow s)
  | bad => rw [ee] at k; exact k.elim
theorem s_retN (C : Sok T Φ γ XW sc X) {st : Stmt} (h : mts T sc .retN (.inl st) = true) : PS X st (tSx T Φ γ fu XW FB HB X .retN) := by
  cases st <;> first | (simp [mts] at h; done) | skip
  rename_i v pos
  cases v <;> first | (simp [mts] at h; done) | skip
  exact ps_retN.of fun D σ H ⟨F, δ, ws, Tm, R, k⟩ => k .non F H [] R.ex ⟨rfl, rfl⟩ .nil
theorem s_rais (C : Sok T Φ γ XW sc X) (c : Str) {st : Stmt} (h : mts T sc (.rais c) (.inl st) = true) : PS X st (tSx T Φ γ fu XW FB HB X (.rais c)) := by
  cases st <;> first | (simp [mts] at h; done) | skip
  rename_i v cause pos
  cases v <;> first | (simp [mts] at h; done) | skip
  rename_i v
  cases v <;> first | (simp [mts] at h; done) | skip
  rename_i fn l kw p1
  cases fn <;> first | (simp [mts] at h; done) | skip
  rename_i x p2
  rcases l with _ | ⟨a, _ | ⟨a2, l⟩⟩ <;> first | (simp [mts] at h; done) | skip
  cases a <;> first | (simp [mts] at h; done) | skip
  rename_i cst j p3
  cases cst <;> first | (simp [mts] at h; done) | skip
  cases kw <;> first | (simp [mts] at h; done) | skip
  cases cause <;> first | (simp [mts] at h; done) | skip
  simp only [mts, Bool.and_eq_true, decide_eq_true_eq] at h
  obtain ⟨⟨rfl, h1⟩, h2⟩ := h
  exact (C.rais _ h1 (C.c.gl h2) _ _ _ _ _ _).of fun D σ H ⟨F, δ, ws, Tm, R, k⟩ => k σ F H R
end
end Mn

/-! MnL: if, loops; every statement. -/
namespace Mn
open PySem PySem.Spec L2
open PyProof.Rows hiding St

section
variable {K : PySem.W.Frag} {n : Nat} {XW : XWs} {FB : Bs} {HB F H : Hp} {σ : St} {δ : List D} {ws : List V} {Tm : List D} {D' : Ends}
theorem ko_if (R : Rs K n FB HB F H σ δ ws Tm) {r : Mn.R D} {a b : O} (h : Ko K n XW FB HB ws Tm D' (O.ifR δ r a b)) : Kg (fun c => XW c σ) H r fun d => ∃ q, d = .bl q ∧ Ko K n XW FB HB ws Tm D' (if q = true then a else b) := by
  cases r with
  | ok d =>
    cases d <;> first | exact h.elim | skip
    rename_i q
    cases q
    · exact ⟨false, rfl, h⟩
    · exact ⟨true, rfl, h⟩
  | exc c => exact fun H' s => h σ F H' (R.grow s)
  | bad => exact h
end
theorem _root_.Mn.M.its_or {T : Tab} {sc : Scope} {m : M} {t it : Expr} (h : mtI T sc m t it = true) : (∃ a, m = .its a) ∨ ∃ k es, m = .it k es := by
  cases m <;> first | (simp [mtI] at h; done) | skip
  · exact .inr ⟨_, _, rfl⟩
  · exact .inl ⟨_, rfl⟩

theorem zip_shape {es : M} : ∀ {l : List Mn.D}, (∃ items, itJ (.it .zip es) (Mn.D.frzs l) = .ok items) → ∃ k1 d1 k2 d2, l = [Mn.D.lst k1 d1, Mn.D.lst k2 d2]
  | [], h => by obtain ⟨_, h⟩ := h; simp [itJ, itop, Mn.D.frzs] at h
  | [a], h => by obtain ⟨_, h⟩ := h; simp [itJ, itop, Mn.D.frzs] at h
  | a :: b :: c :: l, h => by obtain ⟨_, h⟩ := h; simp [itJ, itop, Mn.D.frzs] at h
  | [a, b], h => by
    obtain ⟨_, h⟩ := h
    cases a <;> cases b <;> first | (simp [itJ, itop, Mn.D.frzs, Mn.D.frz] at h; done) | exact ⟨_, _, _, _, rfl⟩
section
variable {T : Tab} {Φ : Fn} {γ : Gn} {fu : Nat} {XW : XWs} {sc : Scope} {X : Cx} {FB : Bs} {HB : Hp}
theorem s_setIx (C : Sok T Φ γ XW sc X) (p : Pl) (ix e : M) {st : Stmt} (h : mts T sc (.setIx p ix e) (.inl st) = true) : PS X st (tSx T Φ γ fu XW FB HB X (.setIx p ix e)) := by
  cases st <;> first | (simp [mts] at h; done) | skip
  rename_i ts v pos
  rcases ts with _ | ⟨t, _ | ⟨t2, ts⟩⟩ <;> first | (simp [mts] at h; done) | skip
  cases t <;> first | (simp [mts] at h; done) | skip
  rename_i o z tp
  simp only [mts, Bool.and_eq_true, Bool.not_eq_true'] at h
  obtain ⟨⟨⟨⟨h1, h2⟩, h3⟩, h4⟩, h5⟩ := h
  refine (ps_asg ((pt_all (FB := FB) (HB := HB) C.c e).1 v h4) (pg_sub (pl_ok C.c p h1) ((pp_all ix).pe C.c h3) (set_list.or (set_dict C.c.units)) (by intro v; cases z <;> first | rfl | (simp [isSlice] at h2))) (show swapsWithSole [.Subscript o z tp] v pos.line X.env = pure false from sw_non h5 (some (.Subscript o z tp)) pos.line X.env) rfl rfl).of fun D σ H ⟨F, δ, ws, Tm, R, k⟩ => ?_
  simp only [exec] at k
  have k0 := ko_of R k
  refine ⟨F, δ, ws, Tm, R, kg_bind k0 (.refl _) fun y hy k1 v F1 H1 sm R1 => ?_⟩
  by_cases hd : ∃ c ks vs, getP y.2 p = .dct .own c ks vs
  · obtain ⟨c, ks, vs, hg⟩ := hd
    have k2 : Kg _ H (match getP y.2 p with
      | .dct .own c ks vs => ev Φ γ ix (Mn.D.frzs y.2) >>= fun k => if keyOk c k && y.1.flat && decide (ks.length < LIM) then Mn.R.ok (setP y.2 p (.dct .own c (dput ks vs k y.1).1 (dput ks vs k y.1).2)) else Mn.R.bad
      | _ => ownAt y.2 p >>= fun ds => ev Φ γ ix (Mn.D.frzs y.2) >>= fun k => intOf k >>= fun k => (match ixN ds.length k with
        | some j => Mn.R.ok (setP y.2 p (.lst .own (ds.set j y.1)))
        | none => Mn.R.bad)) _ := k1
    rw [hg] at k2
    simp only at k2
    obtain ⟨a, ps, us, q1, _⟩ := R1.ownD hg
    refine ⟨.ref a, q1, tF_tE ⟨F1, y.2, v :: ws, y.1 :: Tm, R1, kg_bind k2 sm fun d hd k3 => ?_⟩⟩
    have k4 : Kg _ H (if keyOk c d && y.1.flat && decide (ks.length < LIM) then Mn.R.ok (setP y.2 p (.dct .own c (dput ks vs d y.1).1 (dput ks vs d y.1).2)) else Mn.R.bad) _ := k3
    split at k4
    case isFalse => exact k4.elim
    rename_i hz
    simp only [Bool.and_eq_true, decide_eq_true_eq] at hz
    obtain ⟨⟨z1, z2⟩, z3⟩ := hz
    refine ⟨key_flat d (keyOk_key z1), fun w H2 sm2 rw2 R2 => .inr ?_⟩
    obtain ⟨a', ps', us', g1, g2, g3, g4, g5, g6⟩ := R2.ownD hg
    have ea := plV_one sm2 q1 g1
    cases ea
    obtain ⟨S, rv, _⟩ := R2.top
    obtain ⟨_, rv'⟩ := rep_flat (F' := F1) y.1 z2 rv
    refine ⟨a, F1, c, ks, vs, ps', us', d, y.1, rfl, g2, g3, g4, g5, z3, z1, rw2, rv', z2, fun ps2 us2 r1 r2 r3 => ?_⟩
    exact k4 σ F1 _ (g6 _ _ ps2 us2 r1 r2 r3).drop
  have k1 : Kg (fun c => XW c σ) H (ownAt y.2 p >>= fun ds => ev Φ γ ix (Mn.D.frzs y.2) >>= fun k => intOf k >>= fun k => (match ixN ds.length k with
    | some j => Mn.R.ok (setP y.2 p (.lst .own (ds.set j y.1)))
    | none => Mn.R.bad)) (fun δ' => ∀ (σ' : St) (F' H' : Hp), Rs X.K T.N.length FB HB F' H' σ' δ' ws Tm → D.nx σ' H') := by
    have k2 : Kg (fun c => XW c σ) H (match getP y.2 p with
      | .dct .own c ks vs => ev Φ γ ix (Mn.D.frzs y.2) >>= fun k => if keyOk c k && y.1.flat && decide (ks.length < LIM) then Mn.R.ok (setP y.2 p (.dct .own c (dput ks vs k y.1).1 (dput ks vs k y.1).2)) else Mn.R.bad
      | _ => ownAt y.2 p >>= fun ds => ev Φ γ ix (Mn.D.frzs y.2) >>= fun k => intOf k >>= fun k => (match ixN ds.length k with
        | some j => Mn.R.ok (setP y.2 p (.lst .own (ds.set j y.1)))
        | none => Mn.R.bad)) (fun δ' => ∀ (σ' : St) (F' H' : Hp), Rs X.K T.N.length FB HB F' H' σ' δ' ws Tm → D.nx σ' H') := k1
    split at k2
    · rename_i c ks vs hg
      exact absurd ⟨c, ks, vs, hg⟩ hd
    · exact k2
  cases e1 : ownAt y.2 p with
  | exc c => exact absurd e1 own_nx
  | bad =>
    have k2 : Kg _ H (ownAt y.2 p >>= _) _ := k1
    rw [e1] at k2; exact k2.elim
  | ok ds =>
  have k2 : Kg _ H (ownAt y.2 p >>= fun ds => ev Φ γ ix (Mn.D.frzs y.2) >>= fun k => intOf k >>= fun k => (match ixN ds.length k with
    | some j => Mn.R.ok (setP y.2 p (.lst .own (ds.set j y.1)))
    | none => Mn.R.bad)) _ := k1
  rw [e1] at k2
  obtain ⟨a, us, _, _, _, q1, q2, _⟩ := R1.own e1
  refine ⟨.ref a, q1, tN_tE ⟨F1, y.2, v :: ws, y.1 :: Tm, R1, kg_bind (show Kg _ H (ev Φ γ ix (Mn.D.frzs y.2) >>= _) _ from k2) sm fun d hd k3 => ?_⟩⟩
  cases d <;> first | exact k3.elim | skip
  rename_i i
  refine ⟨i, rfl, fun H2 sm2 R2 => ?_⟩
  have k4 : Kg _ H (match ixN ds.length i with
    | some j => Mn.R.ok (setP y.2 p (.lst .own (ds.set j y.1)))
    | none => Mn.R.bad) _ := k3
  cases ej : ixN ds.length i with
  | none => rw [ej] at k4; exact k4.elim
  | some j =>
  rw [ej] at k4
  obtain ⟨a', us', Sn, So, U, g1, g2, g3, g4, g5, g6, g7, g8, g9, g10⟩ := R2.own e1
  have ea := plV_one sm2 q1 g1
  cases ea
  refine .inl ⟨a, us', i, j, rfl, rfl, g2, by rw [g3]; exact ej, ?_⟩
  obtain ⟨v', vr, S1, S2, e', r1, r2, r3, rfl⟩ := reps_uncons g5
  cases e'
  have hj : j < ds.length := (ixN_seq ej).2.1
  have no1 : ∀ b, b ∈ Sn → b ∉ S1 := fun b hb hc => (g6 b hb).2.2 (List.mem_append_left _ hc)
  have sp : Reps X.K F1 H2 (ds.take j ++ ds[j] :: ds.drop (j + 1)) us' Sn := by rw [← List.drop_eq_getElem_cons hj, List.take_append_drop]; exact g4
  obtain ⟨ua, ub, Sa, Sb, e2, e3, ra, rb, rab⟩ := reps_split sp
  obtain ⟨w, ub', Sw, Sb', rfl, rw1, rb', rwb, rfl⟩ := reps_uncons rb
  have hla : ua.length = j := by rw [reps_len ra, List.length_take]; omega
  have hus : us'.set j v = ua ++ v :: ub' := by
    rw [e2, List.set_append_right _ _ (by omega), hla, Nat.sub_self, List.set_cons_zero]
  have hds : ds.set j y.1 = ds.take j ++ y.1 :: ds.drop (j + 1) := by
    rw [List.set_eq_take_append_cons_drop, if_pos hj]
  have inS : ∀ b, b ∈ Sa ++ (S1 ++ Sb') → b ∈ Sn ∨ b ∈ S1 := fun b hb => by
    simp only [List.mem_append] at hb
    rcases hb with z | z | z
    · exact .inl (by rw [e3]; exact List.mem_append_left _ z)
    · exact .inr z
    · exact .inl (by rw [e3]; exact List.mem_append_right _ (List.mem_append_right _ z))
  have R3 := g10 (ds.take j ++ y.1 :: ds.drop (j + 1)) (ua ++ v :: ub') ws Tm (Sa ++ (S1 ++ Sb')) S2
    (reps_app ra (reps_cons r1 rb' fun b hb hc => no1 b (by rw [e3]; exact List.mem_append_right _ (List.mem_append_right _ hc)) hb) fun b hb hc => by
      rcases List.mem_append.mp hc with z | z
      · exact no1 b (by rw [e3]; exact List.mem_append_left _ hb) z
      · exact rab b hb (List.mem_append_right _ z)) r2
    (fun b hb => (inS b hb).elim (fun z => ⟨(g6 b z).1, (g6 b z).2.1, fun q => (g6 b z).2.2 (List.mem_append_right _ q)⟩) fun z => ⟨(g7 b (List.mem_append_left _ z)).1, (g7 b (List.mem_append_left _ z)).2, r3 b z⟩)
    (fun b hb => g7 b (List.mem_append_right _ hb)) (fun b hb => (inS b hb).elim (g8 b) fun z => g9 b (List.mem_append_left _ z)) fun b hb => g9 b (List.mem_append_right _ hb)
  rw [hus]
  have k5 : Kg _ H (Mn.R.ok (setP y.2 p (.lst .own (ds.set j y.1)))) _ := k4
  rw [hds] at k5
  exact k5 σ F1 _ R3
theorem s_popAt (C : Sok T Φ γ XW sc X) (p : Pl) (ix : M) {st : Stmt} (h : mts T sc (.popAt p ix) (.inl st) = true) : PS X st (tSx T Φ γ fu XW FB HB X (.popAt p ix)) := by
  cases st <;> first | (simp [mts] at h; done) | skip
  rename_i v pos
  cases v <;> first | (simp [mts] at h; done) | skip
  rename_i fn l kw cp
  cases fn <;> first | (simp [mts] at h; done) | skip
  rename_i o nm ap
  rcases l with _ | ⟨z, _ | ⟨z2, l⟩⟩ <;> first | (simp [mts] at h; done) | skip
  cases kw <;> first | (simp [mts] at h; done) | skip
  simp only [mts, Bool.and_eq_true, decide_eq_true_eq] at h
  obtain ⟨⟨⟨⟨rfl, h1⟩, h2⟩, h3⟩, h4⟩ := h
  refine (ps_expr (pe_bm PySem.F.plainAttrs_list PySem.F.slot_list_pop PySem.F.type_list_pop mt_popAt (pl_ok C.c p h2) (pa_cons ((pp_all ix).pe C.c h4) pa_nil (star_cons h3)) (mtp_base h2 _ _) (by rw [trees_cons h3]; rfl) h1 (star_cons h3) rfl) rfl).of fun D σ H ⟨F, δ, ws, Tm, R, k⟩ => ?_
  simp only [exec] at k
  have k0 := ko_of R k
  cases e0 : ownAt δ p with
  | exc c => exact absurd e0 own_nx
  | bad => rw [e0] at k0; exact k0.elim
  | ok ds =>
  rw [e0] at k0
  obtain ⟨a, us, _, _, _, q1, q2, _⟩ := R.own e0
  refine ⟨.ref a, q1, ty_lst q2, ?_⟩
  refine tN_tE ⟨F, δ, ws, Tm, R, kg_bind (show Kg _ H (ev Φ γ ix (Mn.D.frzs δ) >>= _) _ from k0) (.refl _) fun d hd k1 => ?_⟩
  cases d <;> first | exact k1.elim | skip
  rename_i i
  refine ⟨i, rfl, fun H1 sm R1 => ?_⟩
  have k2 : Kg _ H (match ixN ds.length i with
    | some j => if okR i then Mn.R.ok (setP δ p (.lst .own (ds.eraseIdx j))) else Mn.R.bad
    | none => Mn.R.bad) _ := k1
  cases ej : ixN ds.length i with
  | none => rw [ej] at k2; exact k2.elim
  | some j =>
  rw [ej] at k2
  have k3 : Kg _ H (if okR i then Mn.R.ok (setP δ p (.lst .own (ds.eraseIdx j))) else Mn.R.bad) _ := k2
  split at k3
  case isFalse => exact k3.elim
  rename_i hz
  have hb := okR_of hz
  obtain ⟨a', us', Sn, So, U, g1, g2, g3, g4, g5, g6, g7, g8, g9, g10⟩ := R1.own e0
  have ea := plV_one sm q1 g1
  cases ea
  have hj : j < ds.length := (ixN_seq ej).2.1
  have hju : j < us'.length := by rw [g3]; exact hj
  refine ⟨a, us', i, j, us'[j], rfl, rfl, g2, by omega, by omega, by rw [g3]; exact (ixN_seq ej).1, List.getElem?_eq_getElem hju, ?_⟩
  have sp : Reps X.K F H1 (ds.take j ++ ds[j] :: ds.drop (j + 1)) us' Sn := by rw [← List.drop_eq_getElem_cons hj, List.take_append_drop]; exact g4
  obtain ⟨ua, ub, Sa, Sb, e2, e3, ra, rb, rab⟩ := reps_split sp
  obtain ⟨w, ub', Sw, Sb', rfl, rw1, rb', rwb, rfl⟩ := reps_uncons rb
  have hla : ua.length = j := by rw [reps_len ra, List.length_take]; omega
  have hus : us'.eraseIdx j = ua ++ ub' := by
    rw [e2, List.eraseIdx_append_of_length_le (by omega), hla, Nat.sub_self]
    rfl
  have hds : ds.eraseIdx j = ds.take j ++ ds.drop (j + 1) := List.eraseIdx_eq_take_drop_succ _ _
  have inS : ∀ b, b ∈ Sa ++ Sb' → b ∈ Sn := fun b hb => by
    rw [e3]
    rcases List.mem_append.mp hb with z | z
    · exact List.mem_append_left _ z
    · exact List.mem_append_right _ (List.mem_append_right _ z)
  rw [hus]
  rw [hds] at k3
  exact k3 σ F _ (g10 _ _ ws Tm (Sa ++ Sb') U (reps_app ra rb' fun b hb hc => rab b hb (List.mem_append_right _ hc)) g5 (fun b hb => g6 b (inS b hb)) g7 (fun b hb => g8 b (inS b hb)) g9)
theorem s_ife (C : Sok T Φ γ XW sc X) (c : M) (a b : S) (ia : ∀ l, mts T sc a (.inr l) = true → PSs X l (tSx T Φ γ fu XW FB HB X a)) (ib : ∀ l, mts T sc b (.inr l) = true → PSs X l (tSx T Φ γ fu XW FB HB X b)) {st : Stmt} (h : mts T sc (.ife c a b) (.inl st) = true) :
    PS X st (tSx T Φ γ fu XW FB HB X (.ife c a b)) := by
  cases st <;> first | (simp [mts] at h; done) | skip
  simp only [mts, Bool.and_eq_true] at h
  obtain ⟨⟨h1, h2⟩, h3⟩ := h
  refine (ps_if ((pp_all c).pt C.c h1) (ia _ h2) (ib _ h3)).of fun D σ H ⟨F, δ, ws, Tm, R, k⟩ => ?_
  simp only [exec] at k
  refine tC_tT (FB := FB) (HB := HB) ⟨F, δ, ws, Tm, R, kg_mono (ko_if R k) fun d ⟨q, e, k1⟩ => ⟨q, e, fun H' sm R1 => ?_⟩⟩
  cases q with
  | true => exact ⟨F, δ, ws, Tm, R1, k1⟩
  | false => exact ⟨F, δ, ws, Tm, R1, k1⟩
theorem s_whl (C : Sok T Φ γ XW sc X) (c : M) (b : S) (ib : ∀ l, mts T sc b (.inr l) = true → PSs X l (tSx T Φ γ fu XW FB HB X b)) {st : Stmt} (h : mts T sc (.whl c b) (.inl st) = true) : PS X st (tSx T Φ γ fu XW FB HB X (.whl c b)) := by
  cases st <;> first | (simp [mts] at h; done) | skip
  rename_i t bs els pos
  cases els <;> first | (simp [mts] at h; done) | skip
  simp only [mts, Bool.and_eq_true] at h
  refine (ps_while C.po ((pp_all c).pt C.c h.1) (ib _ h.2)).of fun D σ H ⟨F, δ, ws, Tm, R, k⟩ => ?_
  simp only [exec] at k
  refine ⟨fun m σ H => ∃ F δ, Rs X.K T.N.length FB HB F H σ δ ws Tm ∧ Ko X.K T.N.length XW FB HB ws Tm D (loopW (fun δ => ev Φ γ c (Mn.D.frzs δ)) (exec Φ γ fu b) m δ), ⟨fu, F, δ, R, k⟩, fun m σ H ⟨F, δ, R, k⟩ => ?_⟩
  cases m with
  | zero => exact k.elim
  | succ m =>
    simp only [loopW] at k
    refine tC_tT (FB := FB) (HB := HB) ⟨F, δ, ws, Tm, R, ?_⟩
    cases e : ev Φ γ c (Mn.D.frzs δ) with
    | exc c => rw [e] at k; exact fun H' s => k σ F H' (R.grow s)
    | bad => rw [e] at k; exact k.elim
    | ok d =>
      rw [e] at k
      cases d <;> first | exact k.elim | skip
      rename_i q
      refine ⟨q, rfl, fun H' sm R1 => ?_⟩
      cases q with
      | false => exact k σ F H' R1
      | true =>
        refine ⟨fun σ' H' => ∃ F δ, Rs X.K T.N.length FB HB F H' σ' δ ws Tm ∧ Ko X.K T.N.length XW FB HB ws Tm D (loopW (fun δ => ev Φ γ c (Mn.D.frzs δ)) (exec Φ γ fu b) m δ), fun σ' H' z => ⟨m, Nat.lt_succ_self _, z⟩, ?_⟩
        refine ⟨F, δ, ws, Tm, R1, ?_⟩
        exact ko_nx (ko_thn k) fun σ H z => z
theorem s_fr (C : Sok T Φ γ XW sc X) (tg : Tg) (m : M) (b : S) (ib : ∀ l, mts T sc b (.inr l) = true → PSs X l (tSx T Φ γ fu XW FB HB X b)) (hp : ∀ k, k ∈ (tg.slots : List Nat) → FB.pn k = none) {st : Stmt} (h : mts T sc (.fr tg m b) (.inl st) = true) : PS X st (tSx T Φ γ fu XW FB HB X (.fr tg m b)) := by
  cases st <;> first | (simp [mts] at h; done) | skip
  rename_i t it bs els pos
  cases els <;> first | (simp [mts] at h; done) | skip
  simp only [mts, Bool.and_eq_true] at h
  obtain ⟨⟨h1, h2⟩, h3⟩ := h
  -- the turns
  have turns : ∀ {D : Ends} {ws : List V} {Tm args items : List Mn.D} {vs : List V} {J : It} {F H : Hp} {σ : St} {δ : List Mn.D}, Jt X.K m args vs J → itJ m args = .ok items → vs.length = args.length → (∀ a l k e e2, m = .it .zip a → args = [.lst l e, .lst k e2] → l ≠ .own ∧ k ≠ .own) →
      Rs X.K T.N.length FB HB F H σ δ (vs ++ ws) (args ++ Tm) → Ko X.K T.N.length XW FB HB ws Tm D (loopF (fun d δ => (O.of δ (asg false tg [d] δ)).thn (exec Φ γ fu b)) items δ) →
      ∃ W : Nat → Nat → St → Hp → Prop, (∃ m, W 0 m σ H) ∧ ∀ i m σ H, W i m σ H → (J.stop i H ∧ D.nx σ H) ∨ (J.go i H ∧ ∃ N : St → Hp → Prop, (∀ σ' H', N σ' H' → ∃ m', m' < m ∧ W (i + 1) m' σ' H') ∧
        ∀ x H', J.yld i H x H' → gA X.K tg [x] σ H' fun σ2 H2 => tSx T Φ γ fu XW FB HB X b { D with nx := N, ct := N, bk := D.nx } σ2 H2) := by
    intro D ws Tm args items vs J F H σ δ j hit hl hz R k
    have l0 : left m args 0 = args := by
      unfold left
      split <;> simp [anys]
    have ll : ∀ i, (left m args i).length = args.length := by
      intro i
      unfold left
      split <;> rfl
    refine ⟨fun i mm σ H => mm = items.length - i ∧ i ≤ items.length ∧ ∃ F δ, Rs X.K T.N.length FB HB F H σ δ (vs ++ ws) (left m args i ++ Tm) ∧ Ko X.K T.N.length XW FB HB ws Tm D (loopF (fun d δ => (O.of δ (asg false tg [d] δ)).thn (exec Φ γ fu b)) (items.drop i) δ),
      ⟨items.length, by simp, Nat.zero_le _, F, δ, by rw [l0]; exact R, by simpa using k⟩, ?_⟩
    rintro i mm σ H ⟨rfl, hi, F, δ, R, k⟩
    obtain ⟨p1, p2⟩ := loop_item j hit hz R
    by_cases hlt : i < items.length
    · obtain ⟨g1, g2⟩ := p1 _ (List.getElem?_eq_getElem hlt)
      refine .inr ⟨g1, fun σ' H' => ∃ F δ, Rs X.K T.N.length FB HB F H' σ' δ (vs ++ ws) (left m args (i + 1) ++ Tm) ∧ Ko X.K T.N.length XW FB HB ws Tm D (loopF (fun d δ => (O.of δ (asg false tg [d] δ)).thn (exec Φ γ fu b)) (items.drop (i + 1)) δ),
        fun σ' H' z => ⟨_, by omega, rfl, hlt, z⟩, fun x H' hy => ?_⟩
      have R1 := g2 x H' hy
      rw [List.drop_eq_getElem_cons hlt] at k
      simp only [loopF] at k
      cases ea : asg false tg [items[i]] δ with
      | exc c => exact absurd ea (asg_nx tg)
      | bad => rw [ea] at k; exact k.elim
      | ok δ2 =>
        rw [ea] at k
        refine asg_own tg ea hp rfl (vs := [x]) R1 _ fun σ' R' => ?_
        refine ⟨F, δ2, vs ++ ws, left m args (i + 1) ++ Tm, R', ?_⟩
        have k2 : Ko X.K T.N.length XW FB HB ws Tm D ((exec Φ γ fu b δ2).thn (loopF (fun d δ => (O.of δ (asg false tg [d] δ)).thn (exec Φ γ fu b)) (items.drop (i + 1)))) := k
        cases eb : exec Φ γ fu b δ2 with
        | next δ3 =>
          rw [eb] at k2
          exact fun σ' F' H' R2 => ⟨F', δ3, R2, k2⟩
        | ret d => rw [eb] at k2; exact k2
        | exc c δ3 =>
          rw [eb] at k2
          have k3 : Ko X.K T.N.length XW FB HB ws Tm D (.exc c δ3) := k2
          exact fun σ' F' H' R2 => k3 σ' F' H' ((R2.drops (ds := left m args (i + 1)) (us := vs) (by rw [ll, hl])))
        | bad => rw [eb] at k2; exact k2
    · have e : i = items.length := by omega
      subst e
      refine .inl ⟨p2 (Nat.le_refl _) (Nat.le_refl _), ?_⟩
      rw [List.drop_length] at k
      exact k σ F H (R.drops (by rw [ll, hl]))
  have pgg := (pg_ok C.c tg).1 t h1
  have form := M.its_or h2
  rcases form with ⟨a, rfl⟩ | ⟨kk, es, rfl⟩
  · simp only [mtI] at h2
    have pe := (pt_all (FB := FB) (HB := HB) C.c a).1 it h2
    have nset : ∀ l k p, it ≠ .Set l k p := by
      intro l k p e
      subst e
      cases a <;> simp [mtT, mt] at h2
    have src : PI X t it (fun σ H Rr => ∃ F δ ws Tm, Rs X.K T.N.length FB HB F H σ δ ws Tm ∧ Kg (fun c => XW c σ) H (evT Φ γ a δ) fun y => ∃ items, itemsOf y.1 = .ok items ∧ ∀ v F' H' J, Same H H' → Rs X.K T.N.length FB HB F' H' σ y.2 (v :: ws) (y.1 :: Tm) → Jt X.K (.its a) [y.1] [v] J → Rr J H') := by
      refine ⟨fun pins s σ H Rr I ⟨F, δ, ws, Tm, R, k⟩ => ?_⟩
      have hi : (∃ ds δ', evT Φ γ a δ = .ok (.tup ds, δ')) ∨ ¬ (∃ ds δ', evT Φ γ a δ = .ok (.tup ds, δ')) := Classical.em _
      have hi2 : (∃ z δ', evT Φ γ a δ = .ok (.str z, δ')) ∨ ¬ (∃ z δ', evT Φ γ a δ = .ok (.str z, δ')) := Classical.em _
      rcases hi2 with ⟨z, δ', hd⟩ | hd2
      · refine (pi_str (tg := t) pe).run pins s σ H Rr I ⟨F, δ, ws, Tm, R, ?_⟩
        rw [hd] at k ⊢
        obtain ⟨items, _, q⟩ := k
        intro v F1 H1 sm R1
        obtain ⟨S, r, _⟩ := R1.top
        obtain ⟨rfl, _⟩ := rep_str r
        exact ⟨z, rfl, q _ F1 H1 _ sm R1 .str⟩
      rcases hi with ⟨ds, δ', hd⟩ | hd
      · refine (pi_tup (tg := t) pe).run pins s σ H Rr I ⟨F, δ, ws, Tm, R, ?_⟩
        rw [hd] at k ⊢
        obtain ⟨items, _, q⟩ := k
        intro v F1 H1 sm R1
        obtain ⟨p, us, e, k1, k2, _⟩ := Rs.untup R1
        cases e
        exact ⟨p, rfl, ⟨us, .of k1⟩, q _ F1 H1 _ sm R1 .tup⟩
      · refine (pi_list (tg := t) pe).run pins s σ H Rr I ⟨F, δ, ws, Tm, R, ?_⟩
        refine kg_bind (f := Mn.R.ok) (P := _) (show Kg _ H (evT Φ γ a δ >>= Mn.R.ok) _ by cases e : evT Φ γ a δ <;> (rw [e] at k; exact k)) (.refl _) fun y hy k1 => ?_
        obtain ⟨items, hit, q⟩ := k1
        intro v F1 H1 sm R1
        obtain ⟨d, δ1⟩ := y
        cases d <;> first | (simp [itemsOf] at hit; done) | skip
        · exact absurd ⟨_, _, hy⟩ hd2
        · exact absurd ⟨_, _, hy⟩ hd
        · rename_i kk ds
          obtain ⟨S, r, _⟩ := R1.top
          obtain ⟨p, us, S', rfl, q1, q2, q3⟩ := rep_lst R1.ex.in' r
          exact ⟨p, rfl, ⟨us, q1⟩, q _ F1 H1 _ sm R1 .lst⟩
    refine (ps_for C.po C.c.calm src pgg (ib _ h3) (fold_of nset _)).of fun D σ H ⟨F, δ, ws, Tm, R, k⟩ => ?_
    simp only [exec, evI] at k
    refine ⟨F, δ, ws, Tm, R, ?_⟩
    cases ee : evT Φ γ a δ with
    | exc c => rw [ee] at k; exact fun H' s => k σ F H' (R.grow s)
    | bad => rw [ee] at k; exact k.elim
    | ok y =>
      obtain ⟨d, δ1⟩ := y
      rw [ee] at k
      simp only [Mn.R.bind_ok, itJ] at k
      cases ei : itemsOf d with
      | exc c => rw [ei] at k; exact k.elim
      | bad => rw [ei] at k; exact k.elim
      | ok items =>
        rw [ei] at k
        exact ⟨items, ei, fun v F' H' J sm R1 j => turns (args := [d]) (vs := [v]) j (by simp only [itJ]; exact ei) rfl (fun _ _ _ _ _ e => nomatch e) R1 k⟩
  · cases it <;> first | (simp [mtI] at h2; done) | skip
    rename_i fn l kw cp
    cases fn <;> first | (simp [mtI] at h2; done) | skip
    rename_i x xp
    cases kw <;> first | (simp [mtI] at h2; done) | skip
    simp only [mtI, Bool.and_eq_true, decide_eq_true_eq, Bool.or_eq_true, Bool.not_eq_true'] at h2
    obtain ⟨⟨⟨⟨rfl, g1⟩, g2⟩, g3⟩, g4⟩ := h2
    have pa := (pt_all (FB := FB) (HB := HB) C.c es).2 l g4
    have src : PI X t (.Call (.Name kk.nm.1 xp) l [] cp) (fun σ H Rr => ∃ F δ ws Tm, Rs X.K T.N.length FB HB F H σ δ ws Tm ∧ Kg (fun c => XW c σ) H (evT Φ γ es δ) fun y => ∃ ds items, y.1 = .tup ds ∧ itJ (.it kk es) ds = .ok items ∧
        ∀ vs F' H' J, vs.length = ds.length → Same H H' → Rs X.K T.N.length FB HB F' H' σ y.2 (vs ++ ws) (ds ++ Tm) → Jt X.K (.it kk es) ds vs J → Rr J H') := by
      refine it_core C.c kk es g1 g2 g3 (mtT_ns g4) pa ?_
      intro σ H Rr G ⟨F, δ, ws, Tm, R, k⟩ g
      refine ⟨F, δ, ws, Tm, R, kg_mono k fun y ⟨ds, items, e, hit, q⟩ => ⟨ds, e, fun us F' H' hl sm R1 => ?_⟩⟩
      obtain ⟨vs, S, U, hlv, hv, r1, r2, f1, f2, ap⟩ := R1.apart
      obtain ⟨us', ur, U1, U2, e2, rfl, g5, g6, g7⟩ := reps_split r2
      obtain ⟨rfl, rfl⟩ := split_len e2 (by rw [hl, reps_len g5])
      exact g ds items us F' H' U1 hit R1.ex.in' g5 fun J j => q us F' H' J hl sm R1 j
    refine (ps_for C.po C.c.calm src pgg (ib _ h3) (by intro x; rfl)).of fun D σ H ⟨F, δ, ws, Tm, R, k⟩ => ?_
    simp only [exec] at k
    refine ⟨F, δ, ws, Tm, R, ?_⟩
    by_cases hz : kk = .zip
    · subst hz
      simp only [evI] at k
      cases ee : evT Φ γ es δ with
      | exc c => rw [ee] at k; exact fun H' s => k σ F H' (R.grow s)
      | bad => rw [ee] at k; exact k.elim
      | ok y =>
        obtain ⟨d, δ1⟩ := y
        rw [ee] at k
        cases d <;> first | exact k.elim | skip
        rename_i l
        have k1 : Ko X.K T.N.length XW FB HB ws Tm D (match itJ (.it .zip es) (Mn.D.frzs l) with
          | .ok items => loopF (fun d δ => (O.of δ (asg false tg [d] δ)).thn (exec Φ γ fu b)) items δ1
          | _ => .bad) := k
        obtain ⟨k1k, ds1, k2k, ds2, rfl⟩ : ∃ k1 d1 k2 d2, l = [Mn.D.lst k1 d1, Mn.D.lst k2 d2] := by
          have ex : ∃ items, itJ (.it .zip es) (Mn.D.frzs l) = .ok items := by
            cases ei : itJ (.it .zip es) (Mn.D.frzs l) with
            | exc c => rw [ei] at k1; exact k1.elim
            | bad => rw [ei] at k1; exact k1.elim
            | ok items => exact ⟨items, rfl⟩
          exact zip_shape ex
        refine ⟨_, zipL ds1 ds2, rfl, by simp only [itJ, itop]; rfl, fun vs F' H' J hl sm R1 j => ?_⟩
        obtain ⟨F2, R2⟩ := Rs.chill hl R1
        have j2 : Jt X.K (.it .zip es) (Mn.D.frzs [.lst k1k ds1, .lst k2k ds2]) vs J := by
          cases j
          simp only [Mn.D.frzs, Mn.D.frz]
          exact .zp
        refine turns (args := Mn.D.frzs [.lst k1k ds1, .lst k2k ds2]) (items := zipL (Mn.D.frzs ds1) (Mn.D.frzs ds2)) j2 (by simp only [itJ, itop, Mn.D.frzs, Mn.D.frz]; rfl) (by rw [frzs_len]; exact hl) (fun a l k e e2 _ ea => ?_) R2 k1
        simp only [Mn.D.frzs, Mn.D.frz] at ea
        cases k1k <;> cases k2k <;> (cases ea; exact ⟨by decide, by decide⟩)
    · rw [evI_it hz] at k
      cases ee : evT Φ γ es δ with
      | exc c => rw [ee] at k; exact fun H' s => k σ F H' (R.grow s)
      | bad => rw [ee] at k; exact k.elim
      | ok y =>
        obtain ⟨d, δ1⟩ := y
        rw [ee] at k
        cases d <;> first | exact k.elim | skip
        rename_i l
        have k1 : Ko X.K T.N.length XW FB HB ws Tm D (match itJ (.it kk es) l with
          | .ok items => loopF (fun d δ => (O.of δ (asg false tg [d] δ)).thn (exec Φ γ fu b)) items δ1
          | _ => .bad) := k
        cases ei : itJ (.it kk es) l with
        | exc c => rw [ei] at k1; exact k1.elim
        | bad => rw [ei] at k1; exact k1.elim
        | ok items =>
          rw [ei] at k1
          exact ⟨l, items, rfl, ei, fun vs F' H' J hl sm R1 j => turns j ei hl (fun a l k e e2 e3 _ => absurd (by cases e3; rfl) hz) R1 k1⟩
/-! ### for T in P: Q.clear() -/
theorem gA_mono {K : PySem.W.Frag} : ∀ (tg : Tg) {vs : List V} {σ : St} {H : Hp} {Q Q' : St → Hp → Prop}, (∀ σ H, Q σ H → Q' σ H) → gA K tg vs σ H Q → gA K tg vs σ H Q' := by
  intro tg
  induction tg with
  | nm i => exact fun m ⟨v, e, h⟩ => ⟨v, e, m _ _ h⟩
  | tup ts ih =>
    intro vs σ H Q Q' m ⟨v, e, h⟩
    rcases h with ⟨a, xs, e2, h1, h2, h3⟩ | ⟨a, xs, e2, h1, h2, h3⟩
    · exact ⟨v, e, .inl ⟨a, xs, e2, h1, h2, ih m h3⟩⟩
    · exact ⟨v, e, .inr ⟨a, xs, e2, h1, h2, ih m h3⟩⟩
  | nil => exact fun m ⟨e, h⟩ => ⟨e, m _ _ h⟩
  | cons t ts i1 i2 => exact fun m ⟨v, r, e, h⟩ => ⟨v, r, e, i1 (fun σ H h => i2 m h) h⟩
theorem gA_fr {K : PySem.W.Frag} : ∀ (tg : Tg) {vs : List V} {σ : St} {H : Hp} {Q : St → Hp → Prop}, gA K tg vs σ H Q → gA K tg vs σ H fun σ' H' => Q σ' H' ∧ H' = H ∧ ∀ k, k ∉ tg.slots → σ'[k]? = σ[k]?
  | .nm i, vs, σ, H, Q, h => by
    obtain ⟨v, e, h⟩ := h
    refine ⟨v, e, h, rfl, fun k hk => ?_⟩
    have : i ≠ k := fun z => hk (by rw [z]; exact List.mem_singleton.mpr rfl)
    exact List.getElem?_set_ne this
  | .tup ts, vs, σ, H, Q, h => by
    obtain ⟨v, e, h⟩ := h
    rcases h with ⟨a, xs, e2, h1, h2, h3⟩ | ⟨a, xs, e2, h1, h2, h3⟩
    · exact ⟨v, e, .inl ⟨a, xs, e2, h1, h2, gA_fr ts h3⟩⟩
    · exact ⟨v, e, .inr ⟨a, xs, e2, h1, h2, gA_fr ts h3⟩⟩
  | .nil, vs, σ, H, Q, h => by
    obtain ⟨e, h⟩ := h
    exact ⟨e, h, rfl, fun _ _ => rfl⟩
  | .cons t ts, vs, σ, H, Q, h => by
    obtain ⟨v, r, e, h⟩ := h
    refine ⟨v, r, e, gA_mono t (fun σ1 H1 ⟨h1, e1, f1⟩ => gA_mono ts (fun σ2 H2 ⟨h2, e2, f2⟩ => ⟨h2, by rw [e2, e1], fun k hk => ?_⟩) (gA_fr ts h1)) (gA_fr t h)⟩
    have hk1 : k ∉ t.slots := fun z => hk (List.mem_append_left _ z)
    have hk2 : k ∉ ts.slots := fun z => hk (List.mem_append_right _ z)
    rw [f2 k hk2, f1 k hk1]
theorem plV_root {H : Hp} {σ σ' : St} : ∀ {p : Pl} {v : V}, σ'[p.root]? = σ[p.root]? → PlV H σ p v → PlV H σ' p v
  | .nm i, v, e, h => by
    have h' : σ[i]? = some (some v) := h
    have e' : σ'[i]? = σ[i]? := e
    show σ'[i]? = _
    rw [e', h']
  | .ix p k, v, e, ⟨b, us, h1, h2⟩ => ⟨b, us, plV_root (p := p) e h1, h2⟩
theorem plV_clr {H : Hp} {σ : St} {c : Addr} : ∀ {p : Pl} {v w : V}, PlV H σ p v → PlV (upd H c (.lst [])) σ p w → v = w
  | .nm i, v, w, a, b => by
    have a' : σ[i]? = some (some v) := a
    have b' : σ[i]? = some (some w) := b
    rw [a'] at b'
    cases b'
    rfl
  | .ix p k, v, w, ⟨b, us, a1, a2, a3⟩, ⟨b', us', b1, b2, b3⟩ => by
    have e := plV_clr a1 b1
    cases e
    by_cases hc : b = c
    · subst hc
      rw [upd_same] at b2
      rcases b2 with b2 | b2
      · cases b2
        simp at b3
      · cases b2
    · rw [upd_ne hc] at b2
      have : us = us' := by
        rcases a2 with a2 | a2 <;> rcases b2 with b2 | b2 <;> (rw [a2] at b2; cases b2) <;> rfl
      subst this
      rw [a3] at b3
      cases b3
      rfl
theorem upd_self {H : Hp} {a : Addr} {o : HO} (h : H a = some o) : upd H a o = H := by
  funext b
  by_cases e : b = a
  · subst e
    rw [upd_same, h]
  · rw [upd_ne e]
theorem fclrL_own {tg : Tg} {p q : Pl} {n : Nat} : ∀ {k : Nat} {δ : List Mn.D} {P : O → Prop}, P (fclrL tg p q n k δ) → ¬ P .bad → ∃ ds, ownAt δ p = .ok ds ∧ ds.length = n
  | 0, δ, P, h, nb => by
    unfold fclrL at h
    split at h
    · rename_i ds e
      split at h
      · rename_i e2
        exact ⟨ds, e, e2⟩
      · exact absurd h nb
    · exact absurd h nb
  | k + 1, δ, P, h, nb => by
    unfold fclrL at h
    split at h
    · rename_i ds e
      split at h
      · split at h
        · rename_i e2
          exact ⟨ds, e, e2⟩
        · exact absurd h nb
      · exact absurd h nb
    · exact absurd h nb
theorem s_fclr (C : Sok T Φ γ XW sc X) (tg : Tg) (p q : Pl) (hp : ∀ k, k ∈ (tg.slots : List Nat) → FB.pn k = none) {st : Stmt} (h : mts T sc (.fclr tg p q) (.inl st) = true) : PS X st (tSx T Φ γ fu XW FB HB X (.fclr tg p q)) := by
  cases st <;> first | (simp [mts] at h; done) | skip
  rename_i t it bs els pos
  rcases bs with _ | ⟨b, _ | ⟨b2, bs⟩⟩ <;> first | (simp [mts] at h; done) | skip
  cases b <;> first | (simp [mts] at h; done) | skip
  rename_i v bpos
  cases v <;> first | (simp [mts] at h; done) | skip
  rename_i fn l kw cp
  cases fn <;> first | (simp [mts] at h; done) | skip
  rename_i o nm ap
  rcases l with _ | ⟨z, l⟩ <;> first | (simp [mts] at h; done) | skip
  cases kw <;> first | (simp [mts] at h; done) | skip
  cases els <;> first | (simp [mts] at h; done) | skip
  simp only [mts, Bool.and_eq_true, decide_eq_true_eq] at h
  obtain ⟨⟨⟨⟨⟨h1, h2⟩, rfl⟩, h4⟩, h5⟩, h6⟩ := h
  have nset : ∀ l k p, it ≠ .Set l k p := by
    intro l k p' e
    subst e
    cases p <;> simp [mtp] at h2
  refine (ps_for C.po C.c.calm (pi_list (tg := t) (pl_ok C.c p h2)) ((pg_ok C.c tg).1 t h1) (pss_one (ps_expr (pe_bm0 PySem.F.plainAttrs_list PySem.F.slot_list_clear PySem.F.type_list_clear mt_clear (pl_ok C.c q h5) (mtp_base h5 _ _) h4) rfl)) (fold_of nset _)).of fun D σ H ⟨F, δ, ws, Tm, R, k⟩ => ?_
  simp only [exec] at k
  cases e0 : ownAt δ p with
  | exc c => exact absurd e0 own_nx
  | bad => rw [e0] at k; exact k.elim
  | ok ds0 =>
  rw [e0] at k
  have k : Ko X.K T.N.length XW FB HB ws Tm D (fclrL tg p q ds0.length ds0.length δ) := k
  obtain ⟨a, us0, _, _, _, g1, g2, _⟩ := R.own e0
  refine ⟨.ref a, g1, a, rfl, ⟨us0, .of g2⟩, ?_⟩
  refine ⟨fun i m σ H => m = ds0.length - i ∧ i ≤ ds0.length ∧ ∃ F δ, Rs X.K T.N.length FB HB F H σ δ ws Tm ∧ PlV H σ p (.ref a) ∧ Ko X.K T.N.length XW FB HB ws Tm D (fclrL tg p q ds0.length (ds0.length - i) δ), ⟨_, rfl, Nat.zero_le _, F, δ, R, g1, k⟩, ?_⟩
  rintro i m σ H ⟨rfl, hi, F, δ, R, pv, k⟩
  obtain ⟨ds, e1, e2⟩ := fclrL_own (P := fun o => Ko X.K T.N.length XW FB HB ws Tm D o) k (fun z => z)
  obtain ⟨a', us, Sn, So, U, g1, g2, g3, g4, g5, g6, g7, g8, g9, g10⟩ := R.own e1
  have ea := plV_one (.refl _) pv g1
  cases ea
  by_cases hlt : i < ds0.length
  · obtain ⟨k', hk'⟩ : ∃ k', ds0.length - i = k' + 1 := ⟨ds0.length - i - 1, by omega⟩
    rw [hk'] at k
    unfold fclrL at k
    rw [e1] at k
    have hix : ds0.length - (k' + 1) = i := by omega
    rw [hix] at k
    have hd : ds[i]? = some (ds[i]'(by omega)) := List.getElem?_eq_getElem _
    generalize ds[i]'(by omega) = d at hd
    simp only [hd, e2, if_true] at k
    obtain ⟨v, Sk, Sr, f1, f2, f3, f4, f5⟩ := reps_focus g4 hd
    obtain ⟨S3, q1, q2⟩ := f5 F H .any [] (fun e u U r _ => r) (by simp only [Rep]) (fun a ha => (List.not_mem_nil ha).elim)
    refine .inr ⟨⟨us, v, .of g2, f1⟩, fun σ' H' => ∃ F δ, Rs X.K T.N.length FB HB F H' σ' δ ws Tm ∧ PlV H' σ' p (.ref a) ∧ Ko X.K T.N.length XW FB HB ws Tm D (fclrL tg p q ds0.length (ds0.length - (i + 1)) δ), fun σ' H' z => ⟨_, by omega, rfl, hlt, z⟩, fun x H' hy => ?_⟩
    obtain ⟨rfl, hy⟩ := hy
    have ex : v = x := by
      have := hy us (.of g2)
      rw [f1] at this
      exact Option.some.inj this
    subst ex
    have q3 : ∀ b, b ∈ S3 → b ∈ Sr := fun b hb => ((q2 b).mp hb).elim (fun z => (List.not_mem_nil z).elim) id
    have R2 := g10 (ds.set i .any) us (v :: ws) (d :: Tm) S3 (Sk ++ U) q1 (reps_cons f2 g5 fun b hb hc => (g6 b ((f3 b).mpr (.inl hb))).2.2 hc)
      (fun b hb => ⟨(g6 b ((f3 b).mpr (.inr (q3 b hb)))).1, (g6 b ((f3 b).mpr (.inr (q3 b hb)))).2.1, fun z => by
        rcases List.mem_append.mp z with z | z
        · exact f4 b z (q3 b hb)
        · exact (g6 b ((f3 b).mpr (.inr (q3 b hb)))).2.2 z⟩)
      (fun b hb => by
        rcases List.mem_append.mp hb with z | z
        · exact ⟨(g6 b ((f3 b).mpr (.inl z))).1, (g6 b ((f3 b).mpr (.inl z))).2.1⟩
        · exact g7 b z)
      (fun b hb => g8 b ((f3 b).mpr (.inr (q3 b hb)))) (fun b hb => by
        rcases List.mem_append.mp hb with z | z
        · exact g8 b ((f3 b).mpr (.inl z))
        · exact g9 b z)
    rw [upd_self g2] at R2
    cases ea2 : asg false tg [d] (setP δ p (.lst .own (ds.set i .any))) with
    | exc c => exact absurd ea2 (asg_nx tg)
    | bad => rw [ea2] at k; exact k.elim
    | ok δ1 =>
    rw [ea2] at k
    have G := asg_own tg (ds := [d]) (vs := [v]) ea2 hp rfl R2 (fun σ' H' => Rs X.K T.N.length FB HB F H' σ' δ1 ws Tm) (fun σ' R' => R')
    refine gA_mono tg (fun σ' H' z => ?_) (gA_fr tg G)
    obtain ⟨R3, rfl, fr⟩ := z
    have pv2 : PlV H' σ' p (.ref a) := plV_root (fr _ h6) pv
    cases eq : ownAt δ1 q with
    | exc c => exact absurd eq own_nx
    | bad => simp only [eq] at k; exact k.elim
    | ok items1 =>
    simp only [eq] at k
    obtain ⟨c, us', Sn', So', U', g1', g2', g3', g4', g5', g6', g7', g8', g9', g10'⟩ := R3.own eq
    refine ⟨.ref c, g1', ty_lst g2', c, us', rfl, rfl, g2', ?_⟩
    have R4 := g10' [] [] ws Tm [] U' reps_nil' g5' (fun b hb => (List.not_mem_nil hb).elim) g7' .nil g9'
    obtain ⟨ds2, w1, w2⟩ := fclrL_own (P := fun o => Ko X.K T.N.length XW FB HB ws Tm D o) k (fun z => z)
    obtain ⟨a2, _, _, _, _, y1, _⟩ := R4.own w1
    have ya := plV_clr pv2 y1
    cases ya
    exact ⟨F, _, R4, y1, by rw [show ds0.length - (i + 1) = k' by omega]; exact k⟩
  · have : i = ds0.length := by omega
    subst this
    rw [Nat.sub_self] at k
    unfold fclrL at k
    rw [e1] at k
    simp only [e2, if_true] at k
    refine .inl ⟨⟨us, .of g2, by rw [g3, e2]; exact Nat.le_refl _⟩, ?_⟩
    exact k σ F H R
theorem plV_app {H : Hp} {σ : St} {c : Addr} {u0 : List V} {x : V} (hc0 : H c = some (.lst u0)) : ∀ {p : Pl} {v w : V}, PlV H σ p v → PlV (upd H c (.lst (u0 ++ [x]))) σ p w → v = w
  | .nm i, v, w, a, b => by
    have a' : σ[i]? = some (some v) := a
    have b' : σ[i]? = some (some w) := b
    rw [a'] at b'
    cases b'
    rfl
  | .ix p k, v, w, ⟨b, us, a1, a2, a3⟩, ⟨b', us', b1, b2, b3⟩ => by
    have e := plV_app hc0 a1 b1
    cases e
    by_cases hc : b = c
    · subst hc
      rw [upd_same] at b2
      have e1 : us = u0 := by
        rcases a2 with a2 | a2 <;> (rw [hc0] at a2; cases a2)
        rfl
      subst e1
      have e2 : us' = us ++ [x] := by
        rcases b2 with b2 | b2 <;> cases b2
        rfl
      subst e2
      have hk := (List.getElem?_eq_some_iff.mp a3).1
      rw [List.getElem?_append_left hk, a3] at b3
      cases b3
      rfl
    · rw [upd_ne hc] at b2
      have : us = us' := by
        rcases a2 with a2 | a2 <;> rcases b2 with b2 | b2 <;> (rw [a2] at b2; cases b2) <;> rfl
      subst this
      rw [a3] at b3
      cases b3
      rfl
theorem fappL_own {tg : Tg} {p q : Pl} {jj : Int} {n : Nat} : ∀ {k : Nat} {δ : List Mn.D} {P : O → Prop}, P (fappL tg p q jj n k δ) → ¬ P .bad → ∃ ds, ownAt δ p = .ok ds ∧ ds.length = n
  | 0, δ, P, h, nb => by
    unfold fappL at h
    split at h
    · rename_i ds e
      split at h
      · rename_i e2
        exact ⟨ds, e, e2⟩
      · exact absurd h nb
    · exact absurd h nb
  | k + 1, δ, P, h, nb => by
    unfold fappL at h
    split at h
    · rename_i ds e
      split at h
      · split at h
        · rename_i e2
          exact ⟨ds, e, e2⟩
        · exact absurd h nb
      · exact absurd h nb
    · exact absurd h nb
theorem s_fapp (C : Sok T Φ γ XW sc X) (tg : Tg) (p q : Pl) (jj : Int) (hp : ∀ k, k ∈ (tg.slots : List Nat) → FB.pn k = none) {st : Stmt} (h : mts T sc (.fapp tg p q jj) (.inl st) = true) : PS X st (tSx T Φ γ fu XW FB HB X (.fapp tg p q jj)) := by
  cases st <;> first | (simp [mts] at h; done) | skip
  rename_i t it bs els pos
  rcases bs with _ | ⟨b, _ | ⟨b2, bs⟩⟩ <;> first | (simp [mts] at h; done) | skip
  cases b <;> first | (simp [mts] at h; done) | skip
  rename_i v bpos
  cases v <;> first | (simp [mts] at h; done) | skip
  rename_i fn l kw cp
  cases fn <;> first | (simp [mts] at h; done) | skip
  rename_i o nm ap
  rcases l with _ | ⟨z, _ | ⟨z2, l⟩⟩ <;> first | (simp [mts] at h; done) | skip
  cases z <;> first | (simp [mts] at h; done) | skip
  rename_i cst cj cpos
  cases cst <;> first | (simp [mts] at h; done) | skip
  rename_i ci
  cases kw <;> first | (simp [mts] at h; done) | skip
  cases els <;> first | (simp [mts] at h; done) | skip
  simp only [mts, Bool.and_eq_true, decide_eq_true_eq] at h
  obtain ⟨⟨⟨⟨⟨⟨h1, h2⟩, rfl⟩, h4⟩, h5⟩, h6⟩, rfl⟩ := h
  have nset : ∀ l k p, it ≠ .Set l k p := by
    intro l k p' e
    subst e
    cases p <;> simp [mtp] at h2
  refine (ps_for C.po C.c.calm (pi_list (tg := t) (pl_ok C.c p h2)) ((pg_ok C.c tg).1 t h1) (pss_one (ps_expr (pe_bm PySem.F.plainAttrs_list PySem.F.slot_list_append PySem.F.type_list_append mt_append (pl_ok C.c q h5) (pa_cons pe_int pa_nil) (mtp_base h5 _ _) rfl h4 rfl rfl) rfl)) (fold_of nset _)).of fun D σ H ⟨F, δ, ws, Tm, R, k⟩ => ?_
  simp only [exec] at k
  cases e0 : ownAt δ p with
  | exc c => exact absurd e0 own_nx
  | bad => rw [e0] at k; exact k.elim
  | ok ds0 =>
  rw [e0] at k
  have k : Ko X.K T.N.length XW FB HB ws Tm D (fappL tg p q jj ds0.length ds0.length δ) := k
  obtain ⟨a, us0, _, _, _, g1, g2, _⟩ := R.own e0
  refine ⟨.ref a, g1, a, rfl, ⟨us0, .of g2⟩, ?_⟩
  refine ⟨fun i m σ H => m = ds0.length - i ∧ i ≤ ds0.length ∧ ∃ F δ, Rs X.K T.N.length FB HB F H σ δ ws Tm ∧ PlV H σ p (.ref a) ∧ Ko X.K T.N.length XW FB HB ws Tm D (fappL tg p q jj ds0.length (ds0.length - i) δ), ⟨_, rfl, Nat.zero_le _, F, δ, R, g1, k⟩, ?_⟩
  rintro i m σ H ⟨rfl, hi, F, δ, R, pv, k⟩
  obtain ⟨ds, e1, e2⟩ := fappL_own (P := fun o => Ko X.K T.N.length XW FB HB ws Tm D o) k (fun z => z)
  obtain ⟨a', us, Sn, So, U, g1, g2, g3, g4, g5, g6, g7, g8, g9, g10⟩ := R.own e1
  have ea := plV_one (.refl _) pv g1
  cases ea
  by_cases hlt : i < ds0.length
  · obtain ⟨k', hk'⟩ : ∃ k', ds0.length - i = k' + 1 := ⟨ds0.length - i - 1, by omega⟩
    rw [hk'] at k
    unfold fappL at k
    rw [e1] at k
    have hix : ds0.length - (k' + 1) = i := by omega
    rw [hix] at k
    have hd : ds[i]? = some (ds[i]'(by omega)) := List.getElem?_eq_getElem _
    generalize ds[i]'(by omega) = d at hd
    simp only [hd, e2, if_true] at k
    obtain ⟨v, Sk, Sr, f1, f2, f3, f4, f5⟩ := reps_focus g4 hd
    obtain ⟨S3, q1, q2⟩ := f5 F H .any [] (fun e u U r _ => r) (by simp only [Rep]) (fun a ha => (List.not_mem_nil ha).elim)
    refine .inr ⟨⟨us, v, .of g2, f1⟩, fun σ' H' => ∃ F δ, Rs X.K T.N.length FB HB F H' σ' δ ws Tm ∧ PlV H' σ' p (.ref a) ∧ Ko X.K T.N.length XW FB HB ws Tm D (fappL tg p q jj ds0.length (ds0.length - (i + 1)) δ), fun σ' H' z => ⟨_, by omega, rfl, hlt, z⟩, fun x H' hy => ?_⟩
    obtain ⟨rfl, hy⟩ := hy
    have ex : v = x := by
      have := hy us (.of g2)
      rw [f1] at this
      exact Option.some.inj this
    subst ex
    have q3 : ∀ b, b ∈ S3 → b ∈ Sr := fun b hb => ((q2 b).mp hb).elim (fun z => (List.not_mem_nil z).elim) id
    have R2 := g10 (ds.set i .any) us (v :: ws) (d :: Tm) S3 (Sk ++ U) q1 (reps_cons f2 g5 fun b hb hc => (g6 b ((f3 b).mpr (.inl hb))).2.2 hc)
      (fun b hb => ⟨(g6 b ((f3 b).mpr (.inr (q3 b hb)))).1, (g6 b ((f3 b).mpr (.inr (q3 b hb)))).2.1, fun z => by
        rcases List.mem_append.mp z with z | z
        · exact f4 b z (q3 b hb)
        · exact (g6 b ((f3 b).mpr (.inr (q3 b hb)))).2.2 z⟩)
      (fun b hb => by
        rcases List.mem_append.mp hb with z | z
        · exact ⟨(g6 b ((f3 b).mpr (.inl z))).1, (g6 b ((f3 b).mpr (.inl z))).2.1⟩
        · exact g7 b z)
      (fun b hb => g8 b ((f3 b).mpr (.inr (q3 b hb)))) (fun b hb => by
        rcases List.mem_append.mp hb with z | z
        · exact g8 b ((f3 b).mpr (.inl z))
        · exact g9 b z)
    rw [upd_self g2] at R2
    cases ea2 : asg false tg [d] (setP δ p (.lst .own (ds.set i .any))) with
    | exc c => exact absurd ea2 (asg_nx tg)
    | bad => rw [ea2] at k; exact k.elim
    | ok δ1 =>
    rw [ea2] at k
    have G := asg_own tg (ds := [d]) (vs := [v]) ea2 hp rfl R2 (fun σ' H' => Rs X.K T.N.length FB HB F H' σ' δ1 ws Tm) (fun σ' R' => R')
    refine gA_mono tg (fun σ' H' z => ?_) (gA_fr tg G)
    obtain ⟨R3, rfl, fr⟩ := z
    have pv2 : PlV H' σ' p (.ref a) := plV_root (fr _ h6) pv
    cases eq : ownAt δ1 q with
    | exc c => exact absurd eq own_nx
    | bad => simp only [eq] at k; exact k.elim
    | ok items1 =>
    simp only [eq] at k
    obtain ⟨c, us', Sn', So', U', g1', g2', g3', g4', g5', g6', g7', g8', g9', g10'⟩ := R3.own eq
    split at k
    case isFalse => exact k.elim
    rename_i hz
    refine ⟨.ref c, g1', ty_lst g2', c, us', .int jj, rfl, rfl, g2', by rw [g3']; exact hz, ?_⟩
    have r5 : Reps X.K F H' (items1 ++ [.int jj]) (us' ++ [.int jj]) Sn' := by
      have := reps_app g4' (reps_one (show Rep X.K F H' (.int jj) (.int jj) [] by simp only [Rep]; exact ⟨trivial, trivial⟩)) (fun b _ hc => nomatch hc)
      simpa using this
    have R4 := g10' _ _ ws Tm Sn' U' r5 g5' g6' g7' g8' g9'
    obtain ⟨ds2, w1, w2⟩ := fappL_own (P := fun o => Ko X.K T.N.length XW FB HB ws Tm D o) k (fun z => z)
    obtain ⟨a2, _, _, _, _, y1, _⟩ := R4.own w1
    have ya := plV_app g2' pv2 y1
    cases ya
    exact ⟨F, _, R4, y1, by rw [show ds0.length - (i + 1) = k' by omega]; exact k⟩
  · have : i = ds0.length := by omega
    subst this
    rw [Nat.sub_self] at k
    unfold fappL at k
    rw [e1] at k
    simp only [e2, if_true] at k
    refine .inl ⟨⟨us, .of g2, by rw [g3, e2]; exact Nat.le_refl _⟩, ?_⟩
    exact k σ F H R
theorem lt_of_at {α : Type} {l : List α} {i : Nat} {x : α} (h : l[i]? = some x) : i < l.length := by
  by_cases z : i < l.length
  · exact z
  · rw [List.getElem?_eq_none (Nat.le_of_not_lt z)] at h
    cases h
theorem fappEL_own {i j : Nat} {p : Pl} {n : Nat} : ∀ {k : Nat} {δ : List Mn.D} {P : O → Prop}, P (fappEL i j p n k δ) → ¬ P .bad → ∃ ds, ownAt δ p = .ok ds ∧ ds.length = n
  | 0, δ, P, h, nb => by
    unfold fappEL at h
    split at h
    · rename_i ds e
      split at h
      · rename_i e2
        exact ⟨ds, e, e2⟩
      · exact absurd h nb
    · exact absurd h nb
  | k + 1, δ, P, h, nb => by
    unfold fappEL at h
    split at h
    · rename_i ds e
      split at h
      · rename_i e2
        exact ⟨ds, e, e2⟩
      · exact absurd h nb
    · exact absurd h nb
theorem s_fappE (C : Sok T Φ γ XW sc X) (i j : Nat) (p : Pl) (hp : ∀ k, k ∈ ([i, j] : List Nat) → FB.pn k = none) {st : Stmt} (h : mts T sc (.fappE i j p) (.inl st) = true) : PS X st (tSx T Φ γ fu XW FB HB X (.fappE i j p)) := by
  cases st <;> first | (simp [mts] at h; done) | skip
  rename_i t it bs els pos
  cases t <;> first | (simp [mts] at h; done) | skip
  rename_i ts kt tp
  rcases ts with _ | ⟨t1, _ | ⟨t2, _ | ⟨t3, ts⟩⟩⟩ <;> first | (simp [mts] at h; done) | skip
  cases t1 <;> first | (simp [mts] at h; done) | skip
  rename_i x px
  cases t2 <;> first | (simp [mts] at h; done) | skip
  rename_i y py
  cases it <;> first | (simp [mts] at h; done) | skip
  rename_i efn el ekw ecp
  cases efn <;> first | (simp [mts] at h; done) | skip
  rename_i en ep
  rcases el with _ | ⟨it, _ | ⟨it2, el⟩⟩ <;> first | (simp [mts] at h; done) | skip
  cases ekw <;> first | (simp [mts] at h; done) | skip
  rcases bs with _ | ⟨b, _ | ⟨b2, bs⟩⟩ <;> first | (simp [mts] at h; done) | skip
  cases b <;> first | (simp [mts] at h; done) | skip
  rename_i v bpos
  cases v <;> first | (simp [mts] at h; done) | skip
  rename_i fn l kw cp
  cases fn <;> first | (simp [mts] at h; done) | skip
  rename_i o nm ap
  cases o <;> first | (simp [mts] at h; done) | skip
  rename_i y2 py2
  rcases l with _ | ⟨z, _ | ⟨z2, l⟩⟩ <;> first | (simp [mts] at h; done) | skip
  cases z <;> first | (simp [mts] at h; done) | skip
  rename_i x2 px2
  cases kw <;> first | (simp [mts] at h; done) | skip
  cases els <;> first | (simp [mts] at h; done) | skip
  simp only [mts, Bool.and_eq_true, decide_eq_true_eq] at h
  obtain ⟨⟨⟨⟨⟨⟨⟨⟨⟨⟨⟨rfl, h1⟩, h2⟩, h3⟩, h4⟩, rfl⟩, h6⟩, h7⟩, h8⟩, r1⟩, r2⟩, hij⟩ := h
  have hN : i < T.N.length ∧ j < T.N.length := by
    have h7' := h7
    have h8' := h8
    simp only [mtp, Bool.and_eq_true, decide_eq_true_eq] at h7' h8'
    exact ⟨lt_of_at h8'.1.1, lt_of_at h7'.1.1⟩
  have nset : ∀ l k p', (Expr.Call (.Name "enumerate" ep) [it] [] ecp) ≠ .Set l k p' := fun l k p' e => nomatch e
  refine (ps_for C.po C.c.calm (pi_enum (C.c.gl h1) (C.c.bl _ (by simp [bltNames])) (pa_cons (pl_ok C.c p h3) pa_nil (star_cons h4)) (star_cons h4)) ((pg_ok C.c (.tup (.cons (.nm i) (.cons (.nm j) .nil)))).1 _ h2) (pss_one (ps_expr (pe_bm PySem.F.plainAttrs_list PySem.F.slot_list_append PySem.F.type_list_append mt_append (pl_ok C.c (.nm j) h7) (pa_cons (pl_ok C.c (.nm i) h8) pa_nil) (mtp_base h7 _ _) rfl h6 rfl rfl) rfl)) (fold_of nset _)).of fun D σ H ⟨F, δ, ws, Tm, R, k⟩ => ?_
  simp only [exec] at k
  cases e0 : ownAt δ p with
  | exc c => exact absurd e0 own_nx
  | bad => rw [e0] at k; exact k.elim
  | ok ds0 =>
  rw [e0] at k
  have k : Ko X.K T.N.length XW FB HB ws Tm D (fappEL i j p ds0.length ds0.length δ) := k
  obtain ⟨a, us0, _, _, _, g1, g2, _⟩ := R.own e0
  refine ⟨.ref a, g1, a, us0, rfl, .of g2, ?_⟩
  refine ⟨fun q m σ H => m = ds0.length - q ∧ q ≤ ds0.length ∧ ∃ F δ, Rs X.K T.N.length FB HB F H σ δ ws Tm ∧ PlV H σ p (.ref a) ∧ Ko X.K T.N.length XW FB HB ws Tm D (fappEL i j p ds0.length (ds0.length - q) δ), ⟨_, rfl, Nat.zero_le _, F, δ, R, g1, k⟩, ?_⟩
  rintro q m σ H ⟨rfl, hi, F, δ, R, pv, k⟩
  obtain ⟨ds, e1, e2⟩ := fappEL_own (P := fun o => Ko X.K T.N.length XW FB HB ws Tm D o) k (fun z => z)
  obtain ⟨a', us, Sn, So, U, g1, g2, g3, g4, g5, g6, g7, g8, g9, g10⟩ := R.own e1
  have ea := plV_one (.refl _) pv g1
  cases ea
  by_cases hlt : q < ds0.length
  · obtain ⟨k', hk'⟩ : ∃ k', ds0.length - q = k' + 1 := ⟨ds0.length - q - 1, by omega⟩
    rw [hk'] at k
    unfold fappEL at k
    rw [e1] at k
    have hix : ds0.length - (k' + 1) = q := by omega
    rw [hix] at k
    simp only [e2, if_true] at k
    split at k
    case h_2 => exact k.elim
    rename_i es hd
    split at k
    case isFalse => exact k.elim
    rename_i hz
    have eg : getP δ p = .lst .own ds := by
      unfold ownAt at e1
      split at e1
      · rename_i e; cases e1; exact e
      · cases e1
    have eo : ownAt δ (.ix p q) = .ok es := by
      unfold ownAt
      have : getP δ (.ix p q) = .lst .own es := by
        simp only [getP, eg]
        exact hd
      rw [this]
    have hdd : ds[q]? = some (.lst .own es) := getD_at hd (fun z => nomatch z)
    obtain ⟨u, Sk, Sr, f1, f2, f3, f4, f5⟩ := reps_focus g4 hdd
    refine .inr ⟨⟨us, u, .of g2, f1⟩, fun σ' H' => ∃ F δ, Rs X.K T.N.length FB HB F H' σ' δ ws Tm ∧ PlV H' σ' p (.ref a) ∧ Ko X.K T.N.length XW FB HB ws Tm D (fappEL i j p ds0.length (ds0.length - (q + 1)) δ), fun σ' H' z => ⟨_, by omega, rfl, hlt, z⟩, fun x0 H' hy => ?_⟩
    obtain ⟨Ta, u', rfl, hT, rfl, hy⟩ := hy
    have ex : u = u' := by
      have := hy us (.of g2)
      rw [f1] at this
      exact Option.some.inj this
    subst ex
    have R1 := R.grow (H' := upd H Ta (.tup [.int (q : Nat), u])) (same_new hT)
    obtain ⟨c, us', Sn', So', U', g1', g2', g3', g4', g5', g6', g7', g8', g9', g10'⟩ := R1.own eo
    obtain ⟨b, vs2, p1, p2, p3⟩ := g1'
    have pvT : PlV (upd H Ta (.tup [.int (q : Nat), u])) σ p (.ref a) := by
      obtain ⟨a3, us3, _, _, _, y1, _⟩ := R1.own e1
      have := plV_one (same_new hT) pv y1
      cases this
      exact y1
    have eb := plV_one (.refl _) pvT p1
    cases eb
    have hTa : a ≠ Ta := fun z => by rw [z, hT] at g2; cases g2
    have evs : vs2 = us := by
      rw [upd_ne hTa] at p2
      rcases p2 with p2 | p2 <;> (rw [g2] at p2; cases p2)
      rfl
    subst evs
    have euc : u = .ref c := by
      rw [f1] at p3
      exact Option.some.inj p3
    subst euc
    have r5 : Reps X.K F (upd H Ta (.tup [.int (q : Nat), .ref c])) (es ++ [.int (q : Nat)]) (us' ++ [.int (q : Nat)]) Sn' := by
      have := reps_app g4' (reps_one (show Rep X.K F (upd H Ta (.tup [.int (q : Nat), .ref c])) (.int (q : Nat)) (.int (q : Nat)) [] by simp only [Rep]; exact ⟨trivial, trivial⟩)) (fun b _ hc => nomatch hc)
      simpa using this
    have R4 := g10' _ _ ws Tm Sn' U' r5 g5' g6' g7' g8' g9'
    have es4 : setP δ (.ix p q) (.lst .own (es ++ [.int (q : Nat)])) = setP δ p (.lst .own (ds.set q (.lst .own (es ++ [.int (q : Nat)])))) := by
      simp only [setP, eg]
    rw [es4] at R4
    have R5 := (R4.forget i (some (.int (q : Nat))) (hp i (by simp))).forget j (some (.ref c)) (hp j (by simp))
    refine ⟨_, rfl, .inl ⟨Ta, [.int (q : Nat), .ref c], rfl, .of upd_same, rfl, .int (q : Nat), [.ref c], rfl, _, rfl, .ref c, [], rfl, _, rfl, rfl, ?_⟩⟩
    have sj : ((σ.set i (some (.int (q : Nat)))).set j (some (.ref c)))[j]? = some (some (.ref c)) := by
      rw [List.getElem?_set_self (by rw [List.length_set, R4.sl.1]; exact hN.2)]
    have si : ((σ.set i (some (.int (q : Nat)))).set j (some (.ref c)))[i]? = some (some (.int (q : Nat))) := by
      rw [List.getElem?_set_ne (Ne.symm hij), List.getElem?_set_self (by rw [R4.sl.1]; exact hN.1)]
    refine ⟨.ref c, sj, ty_lst g2', .int (q : Nat), si, c, us', .int (q : Nat), rfl, rfl, g2', by rw [g3']; exact hz, ?_⟩
    obtain ⟨ds2, w1, w2⟩ := fappEL_own (P := fun o => Ko X.K T.N.length XW FB HB ws Tm D o) k (fun z => z)
    obtain ⟨a2, _, _, _, _, y1, _⟩ := R5.own w1
    have pv2 : PlV (upd H Ta (.tup [.int (q : Nat), .ref c])) ((σ.set i (some (.int (q : Nat)))).set j (some (.ref c))) p (.ref a) := plV_root (by rw [List.getElem?_set_ne (Ne.symm r2), List.getElem?_set_ne (Ne.symm r1)]) pvT
    have ya := plV_app g2' pv2 y1
    cases ya
    exact ⟨F, _, R5, y1, by rw [show ds0.length - (q + 1) = k' by omega]; exact k⟩
  · have : q = ds0.length := by omega
    subst this
    rw [Nat.sub_self] at k
    unfold fappEL at k
    rw [e1] at k
    simp only [e2, if_true] at k
    refine .inl ⟨⟨us, .of g2, by rw [g3, e2]; exact Nat.le_refl _⟩, ?_⟩
    exact k σ F H R
theorem rep_atm {K : PySem.W.Frag} {F H : Hp} {u : Mn.D} {v : V} {S : List Addr} (h : u.atm = true) (r : Rep K F H u v S) : S = [] ∧ ∀ H' : Hp, Rep K F H' u v [] := by
  cases u <;> simp [Mn.D.atm] at h
  · simp only [Rep] at r ⊢
    exact ⟨r.2, fun _ => ⟨r.1, trivial⟩⟩
  · simp only [Rep] at r ⊢
    exact ⟨r.2, fun _ => ⟨r.1, trivial⟩⟩
/-- an int or a text put into an own list -/
theorem own_put {FB : Bs} {HB F H : Hp} {σ : St} {δ : List Mn.D} {ws : List V} {Tm : List Mn.D} {K : PySem.W.Frag} {n : Nat} {p : Pl} (R : Rs K n FB HB F H σ δ ws Tm) {ds : List Mn.D} (e1 : ownAt δ p = .ok ds) {j : Nat} (hj : j < ds.length) (u : Mn.D) (uv : V) (ra0 : ∀ H' : Hp, Rep K F H' u uv []) :
    ∃ a us, PlV H σ p (.ref a) ∧ H a = some (.lst us) ∧ us.length = ds.length ∧ Rs K n FB HB F (upd H a (.lst (us.set j uv))) σ (setP δ p (.lst .own (ds.set j u))) ws Tm := by
  obtain ⟨a, us, Sn, So, U, g1, g2, g3, g4, g5, g6, g7, g8, g9, g10⟩ := R.own e1
  refine ⟨a, us, g1, g2, g3, ?_⟩
  have sp : Reps K F H (ds.take j ++ ds[j] :: ds.drop (j + 1)) us Sn := by rw [← List.drop_eq_getElem_cons hj, List.take_append_drop]; exact g4
  obtain ⟨ua, ub, Sa, Sb, e2, e3, ra, rb, rab⟩ := reps_split sp
  obtain ⟨w, ub', Sw, Sb', rfl, rw1, rb', rwb, rfl⟩ := reps_uncons rb
  have hla : ua.length = j := by rw [reps_len ra, List.length_take]; omega
  have hus : us.set j uv = ua ++ uv :: ub' := by
    rw [e2, List.set_append_right _ _ (by omega), hla, Nat.sub_self, List.set_cons_zero]
  have hds : ds.set j u = ds.take j ++ u :: ds.drop (j + 1) := by
    rw [List.set_eq_take_append_cons_drop, if_pos hj]
  have ri : Rep K F H u uv [] := ra0 H
  have inS : ∀ b, b ∈ Sa ++ ([] ++ Sb') → b ∈ Sn := fun b hb => by
    simp only [List.nil_append, List.mem_append] at hb
    rcases hb with z | z
    · rw [e3]; exact List.mem_append_left _ z
    · rw [e3]; exact List.mem_append_right _ (List.mem_append_right _ z)
  have rn : Reps K F H (ds.take j ++ u :: ds.drop (j + 1)) (ua ++ uv :: ub') (Sa ++ ([] ++ Sb')) :=
    reps_app ra (reps_cons ri rb' fun b hb => nomatch hb) fun b hb hc => rab b hb (List.mem_append_right _ (by simpa using hc))
  rw [hus, hds]
  exact g10 _ _ ws Tm (Sa ++ ([] ++ Sb')) U rn g5 (fun b hb => g6 b (inS b hb)) g7 (fun b hb => g8 b (inS b hb)) g9
theorem sw_none {ts : List Expr} {o1 z1 o2 z2 : Expr} {p1 p2 pt : Pos} {kt} {v : Expr} {env : Env} : swappedStores [.Tuple [.Subscript o1 z1 p1, .Subscript o2 z2 p2] kt pt] v env = pure none := by
  unfold swappedStores
  cases v <;> first | rfl | skip
  rename_i vs k2 pp
  simp only [List.length_cons, List.length_nil]
  split
  · rfl
  · split
    · rfl
    · rfl
theorem s_swp2 (C : Sok T Φ γ XW sc X) (p : Pl) (ix jx e : M) {st : Stmt} (h : mts T sc (.swp2 p ix jx e) (.inl st) = true) : PS X st (tSx T Φ γ fu XW FB HB X (.swp2 p ix jx e)) := by
  cases st <;> first | (simp [mts] at h; done) | skip
  rename_i ts v pos
  rcases ts with _ | ⟨t, _ | ⟨t2, ts⟩⟩ <;> first | (simp [mts] at h; done) | skip
  cases t <;> first | (simp [mts] at h; done) | skip
  rename_i es kt pt
  rcases es with _ | ⟨s1, _ | ⟨s2, _ | ⟨s3, es⟩⟩⟩ <;> first | (simp [mts] at h; done) | skip
  all_goals cases s1 <;> first | (simp [mts] at h; done) | skip
  rename_i o1 z1 p1
  cases s2 <;> first | (simp [mts] at h; done) | skip
  rename_i o2 z2 p2
  simp only [mts, Bool.and_eq_true, Bool.not_eq_true'] at h
  obtain ⟨⟨⟨⟨⟨⟨⟨h1, h2⟩, h3⟩, h4⟩, h5⟩, h6⟩, h7⟩, h8⟩ := h
  refine (ps_asg ((pt_all (FB := FB) (HB := HB) C.c e).1 v h7) (pg_tup C.c.calm (pgs_cons (pg_sub (pl_ok C.c p h1) ((pp_all ix).pe C.c h3) set_list (by intro v; cases z1 <;> first | rfl | (simp [isSlice] at h2))) (pgs_cons (pg_sub (pl_ok C.c p h4) ((pp_all jx).pe C.c h6) set_list (by intro v; cases z2 <;> first | rfl | (simp [isSlice] at h5))) pgs_nil)))
    (show swapsWithSole [.Tuple [.Subscript o1 z1 p1, .Subscript o2 z2 p2] kt pt] v pos.line X.env = pure false from sw_non h8 (some (.Tuple [.Subscript o1 z1 p1, .Subscript o2 z2 p2] kt pt)) pos.line X.env) (sw_none (ts := [])) rfl).of fun D σ H ⟨F, δ, ws, Tm, R, k⟩ => ?_
  simp only [exec] at k
  have k0 := ko_of R k
  refine ⟨F, δ, ws, Tm, R, kg_bind k0 (.refl _) fun y hy k1 v F1 H1 sm R1 => ?_⟩
  obtain ⟨d, δ1⟩ := y
  have k2 : Kg (fun c => XW c σ) H (sw1 Φ γ p ix jx d δ1) _ := k1
  unfold sw1 at k2
  split at k2
  case h_2 => exact k2.elim
  rename_i u w
  obtain ⟨St0, rt, _⟩ := R1.top
  obtain ⟨ta, vs, rfl, hT, hR⟩ := rep_tup rt
  obtain ⟨v1, vr, Sa, Sb, rfl, r1, r2, _, _⟩ := reps_uncons hR
  obtain ⟨v2, rfl, r3⟩ := reps_1 r2
  split at k2
  case isFalse => exact k2.elim
  rename_i hz
  simp only [Bool.and_eq_true] at hz
  obtain ⟨rfl, r1'⟩ := rep_atm hz.1 r1
  obtain ⟨rfl, r3'⟩ := rep_atm hz.2 r3
  have R2 := R1.drop
  refine ⟨ta, _, rfl, hT, rfl, v1, [v2], rfl, ?_⟩
  cases e1 : ownAt δ1 p with
  | exc c => exact absurd e1 own_nx
  | bad => rw [e1] at k2; exact k2.elim
  | ok ds =>
  rw [e1] at k2
  obtain ⟨a, us, _, _, _, q1, q2, _⟩ := R2.own e1
  refine ⟨.ref a, q1, tN_tE ⟨F1, δ1, ws, Tm, R2, kg_bind (show Kg _ H (ev Φ γ ix (Mn.D.frzs δ1) >>= _) _ from k2) sm fun d hd k3 => ?_⟩⟩
  cases d <;> first | exact k3.elim | skip
  rename_i i
  refine ⟨i, rfl, fun H2 sm2 R3 => ?_⟩
  have k4 : Kg (fun c => XW c σ) H (match ixN ds.length i with
    | some a => sw2 Φ γ p jx w (setP δ1 p (.lst .own (ds.set a u)))
    | none => Mn.R.bad) _ := k3
  cases ej : ixN ds.length i with
  | none => rw [ej] at k4; exact k4.elim
  | some j =>
  rw [ej] at k4
  have k5 : Kg (fun c => XW c σ) H (sw2 Φ γ p jx w (setP δ1 p (.lst .own (ds.set j u)))) _ := k4
  have hj : j < ds.length := (ixN_seq ej).2.1
  obtain ⟨a', us', g1, g2, g3, R4⟩ := own_put R3 e1 hj u v1 r1'
  have ea := plV_one sm2 q1 g1
  cases ea
  refine ⟨a, us', i, j, rfl, rfl, g2, by rw [g3]; exact ej, ?_⟩
  generalize setP δ1 p (.lst .own (ds.set j u)) = δ2 at k5 R4
  unfold sw2 at k5
  cases e2 : ownAt δ2 p with
  | exc c => exact absurd e2 own_nx
  | bad => rw [e2] at k5; exact k5.elim
  | ok ds2 =>
  rw [e2] at k5
  simp only at k5
  obtain ⟨a2, us2, _, _, _, q21, _⟩ := R4.own e2
  cases e3 : ev Φ γ jx (Mn.D.frzs δ2) with
  | exc c => rw [e3] at k5; exact k5.elim
  | bad => rw [e3] at k5; exact k5.elim
  | ok d3 =>
  rw [e3] at k5
  cases d3 <;> first | exact k5.elim | skip
  rename_i i2
  simp only at k5
  cases ej2 : ixN ds2.length i2 with
  | none => rw [ej2] at k5; exact k5.elim
  | some b =>
  rw [ej2] at k5
  refine ⟨v2, [], rfl, .ref a2, q21, tN_tE ⟨F1, δ2, ws, Tm, R4, ?_⟩⟩
  rw [e3]
  refine ⟨i2, rfl, fun H3 sm3 R5 => ?_⟩
  have hb : b < ds2.length := (ixN_seq ej2).2.1
  obtain ⟨a3, us3, g21, g22, g23, R6⟩ := own_put R5 e2 hb w v2 r3'
  have ea2 := plV_one sm3 q21 g21
  cases ea2
  exact ⟨a2, us3, i2, b, rfl, rfl, g22, by rw [g23]; exact ej2, rfl, k5 σ F1 _ R6⟩
/-- the context of a try's body -/
theorem Sok.try' (C : Sok T Φ γ XW sc X) {W : WX} {pn : List (Addr × Obj)} {xe : Value → Shared → Prop} (tk : Takes (X.tr pn xe) W) (po : PassesOwn (model X.prog X.w) X.A X.env xe) : Sok T Φ γ (fun c σ H => ∃ Ca, X.mg c = some (.ref Ca) ∧ W (.ref Ca) none σ H) sc (X.tr pn xe) where
  c := {
    calm := C.c.calm
    nN := C.c.nN
    nd := C.c.nd
    keep := C.c.keep
    free := C.c.free
    cell := C.c.cell
    units := C.c.units
    bl := C.c.bl
    call := C.c.call
    pass := fun pins σ H s e s' I c => tk e s' (XE.of_call I (fun cls d H' h => by
      obtain ⟨rfl, c, Ca, rfl, h1, Cb, h2, h3⟩ := h
      have h1' : X.mg c = some (.ref Ca) := h1
      rw [h1'] at h2
      cases h2
      exact h3) c)
    cls := fun c σ H' ⟨Ca, h, _⟩ => ⟨Ca, h⟩
    exk := C.c.exk
    glob := C.c.glob }
  same := C.same
  bk := C.bk
  po := po
  tk := tk.imp fun cls d σ H h => by
    obtain ⟨c, Ca, rfl, rfl, h1, Cb, h2, h3⟩ := h
    have h1' : X.mg c = some (.ref Ca) := h1
    rw [h1'] at h2
    cases h2
    exact h3
  exf := C.exf
  stk := C.stk
  frm := C.frm
  exn := C.exn
theorem s_tryk (C : Sok T Φ γ XW sc X) (i e : Nat) (b : S) (ib : ∀ (XW : XWs) (X : Cx), Sok T Φ γ XW sc X → ∀ l, mts T sc b (.inr l) = true → PSs X l (tSx T Φ γ fu XW FB HB X b)) (hpn : ∀ k, k ∈ ([i, e] : List Nat) → FB.pn k = none) {st : Stmt} (h : mts T sc (.tryk i e b) (.inl st) = true) :
    PS X st (tSx T Φ γ fu XW FB HB X (.tryk i e b)) := by
  have look : ∃ bs x xp m y yp m2 mp ap hp pos, st = .Try bs [.ExceptHandler (some (.Name x xp)) (some m) [.Assign [.Name y yp] (.Name m2 mp) ap] hp] [] [] pos := by
    unfold mts at h
    split at h <;> first | (cases h; done) | contradiction | skip
    all_goals first | (rename_i heq; exact ⟨_, _, _, _, _, _, _, _, _, _, _, Sum.inl.inj heq⟩) | (simp at h; done)
  obtain ⟨bs, x, xp, m, y, yp, m2, mp, ap, hp, pos, rfl⟩ := look
  simp only [mts, Bool.and_eq_true, decide_eq_true_eq] at h
  obtain ⟨⟨⟨⟨⟨⟨⟨⟨⟨rfl, h1⟩, rfl⟩, h2⟩, h3⟩, h4⟩, h5⟩, h6⟩, h7⟩, h8⟩ := h
  have EK := C.c.exk h7
  have kl : X.env.kindOf m = some .local := by
    have : X.env.scope.names.lookup m = some .local := by rw [C.same]; exact h3
    exact this
  obtain ⟨l1, l2⟩ := C.c.loc h6
  refine (ps_try_v (i := e) (tb := fun W => tS X.K T.N.length Φ γ fu (fun c σ H => ∃ Ca, X.mg c = some (.ref Ca) ∧ W (.ref Ca) none σ H) FB HB b) C.stk C.frm C.exn C.c.nd (by rw [C.c.nN]; exact h2) kl ⟨C.c.gl h1, by decide, .inl EK.te⟩
    (fun W pn xe tk po => ib _ _ (C.try' tk po) bs h8)
    (fun a pn => pss_one (ps_set (X := X.suite a pn) (i := i) C.c.nd (by rw [C.c.nN]; exact h5) l1 (pe_var (X := X.suite a pn) (i := e) (by rw [C.c.nN]; exact h2) (.inl kl) (okNm_1 h4) (okNm_2 h4)) rfl l2))).of fun D σ H ⟨F, δ, ws, Tm, R, k⟩ => ?_
  refine ⟨F, δ, ws, Tm, R, ?_⟩
  simp only [exec] at k
  cases eb : exec Φ γ fu b δ with
  | next δ' => rw [eb] at k; exact k
  | ret d => rw [eb] at k; exact k
  | bad => rw [eb] at k; exact k.elim
  | exc c δ' =>
    rw [eb] at k
    have k1 : Ko X.K T.N.length XW FB HB ws Tm D (if c ∈ exNames then .next ((δ'.set i (.exc c)).set e .any) else .bad) := k
    split at k1
    case isFalse => exact k1.elim
    rename_i hc
    intro σ' F' H' R'
    refine ⟨He.ga X.K c, EK.nm c hc, rfl, EK.exm c hc, fun a ha => ?_⟩
    have he : e < T.N.length := (List.getElem?_eq_some_iff.mp h2).1
    refine ⟨.ref a, by rw [List.getElem?_set_self (by rw [R'.sl.1]; exact he)], ?_⟩
    have R1 := (R'.exc (c := c) ha)
    -- the name that goes, ahead
    have R2 : Rs X.K T.N.length FB HB F' (upd H' a (ExV (.ref (He.ga X.K c)) a)) (σ'.set e (some (.ref a))) (δ'.set e .any) (.ref a :: ws) (.exc c :: Tm) := R1.forget e _ (hpn e (by simp))
    have R3 := (R2.put i (hpn i (by simp))).forget e none (hpn e (by simp))
    have e1 : ((δ'.set e .any).set i (.exc c)).set e .any = (δ'.set i (.exc c)).set e .any := by
      by_cases q : i = e
      · subst q; simp
      · have z : (δ'.set e Mn.D.any).set i (Mn.D.exc c) = (δ'.set i (Mn.D.exc c)).set e Mn.D.any := List.set_comm _ _ (Ne.symm q)
        rw [z, List.set_set]
    rw [e1] at R3
    exact k1 _ F' _ R3
/-- EVERY STATEMENT -/
theorem s_scope (U : List Nat) (s : S) (hp : ∀ k, k ∈ s.sets → FB.pn k = none) {st : Stmt} (is : ∀ {FB : Bs} {HB : Hp}, (∀ k, k ∈ s.sets → FB.pn k = none) → ∀ st, mts T sc s (.inl st) = true → PS X st (tSx T Φ γ fu XW FB HB X s)) (h : mts T sc (.scope U s) (.inl st) = true) : PS X st (tSx T Φ γ fu XW FB HB X (.scope U s)) := by
  simp only [mts, Bool.and_eq_true, List.all_eq_true, decide_eq_true_eq] at h
  have P : PS X st (fun D σ H => ∃ (FB2 : Bs) (HB2 : Hp), (∀ k, k ∈ s.sets → FB2.pn k = none) ∧ tSx T Φ γ fu XW FB2 HB2 X s D σ H) :=
    ⟨fun pins s' σ H D I ⟨FB2, HB2, h2, q⟩ => (is h2 st h.1).run pins s' σ H D I q⟩
  refine P.of fun D σ H ⟨F, δ, ws, Tm, R, k⟩ => ?_
  obtain ⟨FB2, HB2, e1, e2, e3, R2, back⟩ := R.scope U s.sets h.2 hp
  refine ⟨FB2, HB2, e1, FB2.f, frzU U 0 δ, [], [], R2, ?_⟩
  simp only [exec] at k
  cases e : exec Φ γ fu s (frzU U 0 δ) with
  | next δ' =>
    rw [e] at k
    exact fun σ' F' H' R3 => k σ' F H' (back F' H' σ' δ' R3)
  | exc c δ' =>
    rw [e] at k
    exact fun σ' F' H' R3 => k σ' F H' (back F' H' σ' δ' R3)
  | ret d =>
    rw [e] at k
    exact fun v F' H' S x r f => k v F' H' S ⟨e2.f.trans x.f, e3.trans x.h, x.in', fun a h1 h2 => x.new a (fun z => h1 (e3.free z)) (e2.new a h1 h2)⟩ r (f.mono e3)
  | bad => rw [e] at k; exact k
theorem s_frO (C : Sok T Φ γ XW sc X) (i : Nat) (tg : Tg) (b : S) (hpn : ∀ k, k ∈ (S.frO i tg b).sets → FB.pn k = none) {st : Stmt} (ib : ∀ {FB : Bs} {HB : Hp}, (∀ k, k ∈ b.sets → FB.pn k = none) → ∀ l, mts T sc b (.inr l) = true → PSs X l (tSx T Φ γ fu XW FB HB X b)) (h : mts T sc (.frO i tg b) (.inl st) = true) : PS X st (tSx T Φ γ fu XW FB HB X (.frO i tg b)) := by
  cases st <;> first | (simp [mts] at h; done) | skip
  rename_i t it bs els pos
  cases els <;> first | (simp [mts] at h; done) | skip
  simp only [mts, Bool.and_eq_true, decide_eq_true_eq] at h
  obtain ⟨⟨⟨⟨h1, h2⟩, h3⟩, h4⟩, h5⟩ := h
  have nset : ∀ l k p, it ≠ .Set l k p := by
    intro l k p' e
    subst e
    simp [mtp] at h2
  have P : PSs X bs (fun D σ H => ∃ FB2 : Bs, (∀ k, k ∈ b.sets → FB2.pn k = none) ∧ tSx T Φ γ fu XW FB2 HB X b D σ H) :=
    ⟨fun pins s σ H D I ⟨FB2, hq, q⟩ => (ib hq bs h3).run pins s σ H D I q⟩
  refine (ps_for C.po C.c.calm (pi_list (tg := t) (pl_ok C.c (.nm i) h2)) ((pg_ok C.c tg).1 t h1) P (fold_of nset _)).of fun D σ H ⟨F, δ, ws, Tm, R, k⟩ => ?_
  simp only [exec] at k
  split at k
  case h_2 => exact k.elim
  rename_i ds eg
  obtain ⟨v, hv, R1⟩ := R.take eg (fun z => nomatch z)
  obtain ⟨S0, r0, _⟩ := R1.top
  simp only [Rep] at r0
  obtain ⟨a, us0, S1, rfl, g2, _⟩ := r0
  refine ⟨.ref a, hv, a, rfl, ⟨us0, .of g2⟩, ?_⟩
  have hpi : FB.pn i = none := hpn i (by simp [S.sets])
  obtain ⟨FB2, hF2⟩ : ∃ FB2 : Bs, FB2 = ⟨FB.f, fun j => if j = i then some (.ref a) else FB.pn j⟩ := ⟨_, rfl⟩
  have up : ∀ {F H : Hp} {σ : St} {δ : List Mn.D} {ws : List V} {Tm : List Mn.D}, σ[i]? = some (some (.ref a)) → Rs X.K T.N.length FB HB F H σ δ ws Tm → Rs X.K T.N.length FB2 HB F H σ δ ws Tm := by
    intro F H σ δ ws Tm e R
    subst hF2
    refine ⟨R.ex, ⟨R.sl.1, fun j w z => ?_⟩, R.dl, R.rep⟩
    have z' : (if j = i then some (.ref a) else FB.pn j) = some w := z
    split at z'
    · rename_i ej; cases z'; rw [ej]; exact e
    · exact R.sl.2 j w z'
  have dn : ∀ {F H : Hp} {σ : St} {δ : List Mn.D} {ws : List V} {Tm : List Mn.D}, Rs X.K T.N.length FB2 HB F H σ δ ws Tm → σ[i]? = some (some (.ref a)) ∧ Rs X.K T.N.length FB HB F H σ δ ws Tm := by
    intro F H σ δ ws Tm R
    subst hF2
    refine ⟨R.sl.2 i (.ref a) (if_pos rfl), R.ex, ⟨R.sl.1, fun j w z => R.sl.2 j w ?_⟩, R.dl, R.rep⟩
    show (if j = i then some (.ref a) else FB.pn j) = some w
    split
    · rename_i ej; rw [ej, hpi] at z; cases z
    · exact z
  have hq : ∀ k, k ∈ b.sets → FB2.pn k = none := fun k hk => by
    subst hF2
    show (if k = i then some (.ref a) else FB.pn k) = none
    split
    · rename_i e; rw [e] at hk; exact absurd hk h5
    · exact hpn k (by simp [S.sets, hk])
  have hqt : ∀ k, k ∈ tg.slots → FB2.pn k = none := fun k hk => by
    subst hF2
    show (if k = i then some (.ref a) else FB.pn k) = none
    split
    · rename_i e; rw [e] at hk; exact absurd hk h4
    · exact hpn k (by simp [S.sets, hk])
  have hf2 : FB2.f = FB.f := by rw [hF2]
  -- what is wanted of the loop
  obtain ⟨K3, hK3⟩ : ∃ K3 : O → Prop, K3 = fun o => match o with
    | .next δ' => ∀ σ F H, Rs X.K T.N.length FB2 HB F H σ δ' ([V.ref a] ++ ws) (left (.its (.slot i)) [.lst .own ds] ds.length ++ Tm) → D.nx σ H
    | .ret d => ∀ v F' H' S, Ext FB.f HB F' H' → Rep X.K F' H' d v S → Fresh HB S → D.rt v H'
    | .exc c δ' => ∀ σ F H, Rs X.K T.N.length FB HB F H σ δ' ws Tm → XW c σ H
    | .bad => False := ⟨_, rfl⟩
  have k3 : K3 (loopF (fun d δ => (O.of δ (asg false tg [d] δ)).thn (exec Φ γ fu b)) ds (δ.set i .any)) := by
    rw [hK3]
    cases eo : loopF (fun d δ => (O.of δ (asg false tg [d] δ)).thn (exec Φ γ fu b)) ds (δ.set i .any) with
    | next δ' =>
      rw [eo] at k
      intro σ F H R3
      obtain ⟨e, R4⟩ := dn R3
      have R5 : Rs X.K T.N.length FB HB F H σ δ' (.ref a :: ws) (.lst .own (anys ds.length) :: Tm) := by
        have : left (.its (.slot i)) [.lst .own ds] ds.length = [.lst .own (anys ds.length)] := by simp [left]
        rw [this] at R4
        exact R4
      have R6 := R5.put i hpi
      have es : σ.set i (some (.ref a)) = σ := by
        apply List.ext_getElem?
        intro j
        by_cases c : i = j
        · subst c
          rw [List.getElem?_set_self (List.getElem?_eq_some_iff.mp e).1, e]
        · rw [List.getElem?_set_ne c]
      rw [es] at R6
      exact k σ F H R6
    | ret d => rw [eo] at k; exact k
    | exc c δ' => rw [eo] at k; exact k
    | bad => rw [eo] at k; exact k
  have ll : ∀ q, left (.its (.slot i)) [.lst .own ds] q = [.lst .own (anys q ++ ds.drop q)] := fun q => rfl
  refine ⟨fun q m σ H => m = ds.length - q ∧ q ≤ ds.length ∧ ∃ F δ, Rs X.K T.N.length FB2 HB F H σ δ ([V.ref a] ++ ws) (left (.its (.slot i)) [.lst .own ds] q ++ Tm) ∧ K3 (loopF (fun d δ => (O.of δ (asg false tg [d] δ)).thn (exec Φ γ fu b)) (ds.drop q) δ),
    ⟨ds.length, by simp, Nat.zero_le _, F, _, by rw [ll]; simpa [anys] using up hv R1, by simpa using k3⟩, ?_⟩
  rintro q m σ H ⟨rfl, hi, F, δ, R, k⟩
  obtain ⟨p1, p2⟩ := loop_item (iter := .its (.slot i)) (args := [.lst .own ds]) (items := ds) (vs := [V.ref a]) (Jt.lst (K := X.K)) (by simp [itJ, itemsOf]) (fun _ _ _ _ _ e => nomatch e) R
  by_cases hlt : q < ds.length
  · obtain ⟨g1, g2⟩ := p1 _ (List.getElem?_eq_getElem hlt)
    refine .inr ⟨g1, fun σ' H' => ∃ F δ, Rs X.K T.N.length FB2 HB F H' σ' δ ([V.ref a] ++ ws) (left (.its (.slot i)) [.lst .own ds] (q + 1) ++ Tm) ∧ K3 (loopF (fun d δ => (O.of δ (asg false tg [d] δ)).thn (exec Φ γ fu b)) (ds.drop (q + 1)) δ),
      fun σ' H' z => ⟨_, by omega, rfl, hlt, z⟩, fun x H' hy => ?_⟩
    have R1 := g2 x H' hy
    rw [List.drop_eq_getElem_cons hlt] at k
    simp only [loopF] at k
    cases ea : asg false tg [ds[q]] δ with
    | exc c => exact absurd ea (asg_nx tg)
    | bad => rw [ea, hK3] at k; exact k.elim
    | ok δ2 =>
      rw [ea] at k
      refine asg_own tg ea hqt rfl (vs := [x]) R1 _ fun σ' R' => ?_
      refine ⟨FB2, hq, F, δ2, [V.ref a] ++ ws, left (.its (.slot i)) [.lst .own ds] (q + 1) ++ Tm, R', ?_⟩
      have k2 : K3 ((exec Φ γ fu b δ2).thn (loopF (fun d δ => (O.of δ (asg false tg [d] δ)).thn (exec Φ γ fu b)) (ds.drop (q + 1)))) := k
      cases eb : exec Φ γ fu b δ2 with
      | next δ3 =>
        rw [eb] at k2
        exact fun σ' F' H' R2 => ⟨F', δ3, R2, k2⟩
      | ret d =>
        rw [eb] at k2
        have k4 : K3 (.ret d) := k2
        rw [hK3] at k4
        intro v F' H' S e r f
        rw [hf2] at e
        exact k4 v F' H' S e r f
      | exc c δ3 =>
        rw [eb] at k2
        have k4 : K3 (.exc c δ3) := k2
        rw [hK3] at k4
        exact fun σ' F' H' R2 => k4 σ' F' H' (dn R2).2.drop
      | bad =>
        rw [eb] at k2
        have k4 : K3 .bad := k2
        rw [hK3] at k4
        exact k4
  · have e : q = ds.length := by omega
    subst e
    refine .inl ⟨p2 (Nat.le_refl _) (Nat.le_refl _), ?_⟩
    rw [List.drop_length] at k
    have k4 : K3 (.next δ) := k
    rw [hK3] at k4
    exact k4 σ F H R
theorem s_all : ∀ (s : S) {FB : Bs} {HB : Hp} {XW : XWs} {X : Cx} (C : Sok T Φ γ XW sc X), (∀ k, k ∈ s.sets → FB.pn k = none) → (∀ st, mts T sc s (.inl st) = true → PS X st (tSx T Φ γ fu XW FB HB X s)) ∧ (∀ l, mts T sc s (.inr l) = true → PSs X l (tSx T Φ γ fu XW FB HB X s)) := by
  intro s
  induction s with
  | nil =>
    intro FB HB XW X C hp
    refine ⟨fun st h => by simp [mts] at h, fun l h => ?_⟩
    cases l with
    | cons => simp [mts] at h
    | nil => exact pss_nil.of fun D σ H ⟨F, δ, ws, Tm, R, k⟩ => k σ F H R
  | cons s ss i1 i2 =>
    intro FB HB XW X C hp
    refine ⟨fun st h => by simp [mts] at h, fun l h => ?_⟩
    cases l with
    | nil => simp [mts] at h
    | cons x xs =>
      simp only [mts, Bool.and_eq_true] at h
      refine (pss_cons ((i1 (FB := FB) (HB := HB) C fun k hk => hp k (by simp [S.sets, hk])).1 x h.1) ((i2 (FB := FB) (HB := HB) C fun k hk => hp k (by simp [S.sets, hk])).2 xs h.2)).of fun D σ H ⟨F, δ, ws, Tm, R, k⟩ => ?_
      simp only [exec] at k
      refine ⟨F, δ, ws, Tm, R, ?_⟩
      exact ko_nx (ko_thn k) fun σ H ⟨F', δ', R', k'⟩ => ⟨F', δ', ws, Tm, R', k'⟩
  | pass =>
    intro FB HB XW X C hp
    refine ⟨fun st h => ?_, fun l h => by simp [mts] at h⟩
    cases st <;> first | (simp [mts] at h; done) | skip
    exact ps_pass.of fun D σ H ⟨F, δ, ws, Tm, R, k⟩ => k σ F H R
  | set tg e => intro FB HB XW X C hp; exact ⟨fun st h => s_set C tg e (fun k hk => hp k (by simpa [S.sets] using hk)) h, fun l h => by simp [mts] at h⟩
  | setC i e => intro FB HB XW X C hp; exact ⟨fun st h => s_setC C i e (fun k hk => hp k (by simpa [S.sets] using hk)) h, fun l h => by simp [mts] at h⟩
  | setCK i e => intro FB HB XW X C hp; exact ⟨fun st h => s_setCK C i e (fun k hk => hp k (by simpa [S.sets] using hk)) h, fun l h => by simp [mts] at h⟩
  | setCO i e => intro FB HB XW X C hp; exact ⟨fun st h => s_setCO C i e (fun k hk => hp k (by simpa [S.sets] using hk)) h, fun l h => by simp [mts] at h⟩
  | setCX i e => intro FB HB XW X C hp; exact ⟨fun st h => s_setCX C i e (fun k hk => hp k (by simpa [S.sets] using hk)) h, fun l h => by simp [mts] at h⟩
  | retCX e => intro FB HB XW X C hp; exact ⟨fun st h => s_retCX C e h, fun l h => by simp [mts] at h⟩
  | par i j a b => intro FB HB XW X C hp; exact ⟨fun st h => s_par C i j a b (fun k hk => hp k (by simpa [S.sets] using hk)) h, fun l h => by simp [mts] at h⟩
  | app p e => intro FB HB XW X C hp; exact ⟨fun st h => s_app C p e h, fun l h => by simp [mts] at h⟩
  | ins p i e => intro FB HB XW X C hp; exact ⟨fun st h => s_ins C p i e h, fun l h => by simp [mts] at h⟩
  | clr p => intro FB HB XW X C hp; exact ⟨fun st h => s_clr C p h, fun l h => by simp [mts] at h⟩
  | pop p => intro FB HB XW X C hp; exact ⟨fun st h => s_pop C p h, fun l h => by simp [mts] at h⟩
  | setPop i p => intro FB HB XW X C hp; exact ⟨fun st h => s_setPop C i p (fun k hk => hp k (by simpa [S.sets] using hk)) h, fun l h => by simp [mts] at h⟩
  | setIx p i e => intro FB HB XW X C hp; exact ⟨fun st h => s_setIx C p i e h, fun l h => by simp [mts] at h⟩
  | aug i e => intro FB HB XW X C hp; exact ⟨fun st h => s_aug C i e (fun k hk => hp k (by simpa [S.sets] using hk)) h, fun l h => by simp [mts] at h⟩
  | ife c a b i1 i2 => intro FB HB XW X C hp; exact ⟨fun st h => s_ife C c a b (i1 (FB := FB) (HB := HB) C fun k hk => hp k (by simp [S.sets, hk])).2 (i2 (FB := FB) (HB := HB) C fun k hk => hp k (by simp [S.sets, hk])).2 h, fun l h => by simp [mts] at h⟩
  | whl c b i1 => intro FB HB XW X C hp; exact ⟨fun st h => s_whl C c b (i1 (FB := FB) (HB := HB) C fun k hk => hp k (by simp [S.sets, hk])).2 h, fun l h => by simp [mts] at h⟩
  | fr tg m b i1 => intro FB HB XW X C hp; exact ⟨fun st h => s_fr C tg m b (i1 (FB := FB) (HB := HB) C fun k hk => hp k (by simp [S.sets, hk])).2 (fun k hk => hp k (by simp [S.sets, hk])) h, fun l h => by simp [mts] at h⟩
  | ret e => intro FB HB XW X C hp; exact ⟨fun st h => s_ret C e h, fun l h => by simp [mts] at h⟩
  | retN => intro FB HB XW X C hp; exact ⟨fun st h => s_retN C h, fun l h => by simp [mts] at h⟩
  | drop e => intro FB HB XW X C hp; exact ⟨fun st h => s_drop C e h, fun l h => by simp [mts] at h⟩
  | fclr tg p q => intro FB HB XW X C hp; exact ⟨fun st h => s_fclr C tg p q (fun k hk => hp k (by simpa [S.sets] using hk)) h, fun l h => by simp [mts] at h⟩
  | fapp tg p q i => intro FB HB XW X C hp; exact ⟨fun st h => s_fapp C tg p q i (fun k hk => hp k (by simpa [S.sets] using hk)) h, fun l h => by simp [mts] at h⟩
  | fappE i j p => intro FB HB XW X C hp; exact ⟨fun st h => s_fappE C i j p (fun k hk => hp k (by simpa [S.sets] using hk)) h, fun l h => by simp [mts] at h⟩
  | swp2 p i j e => intro FB HB XW X C hp; exact ⟨fun st h => s_swp2 C p i j e h, fun l h => by simp [mts] at h⟩
  | popAt p i => intro FB HB XW X C hp; exact ⟨fun st h => s_popAt C p i h, fun l h => by simp [mts] at h⟩
  | scope U s i1 => intro FB HB XW X C hp; exact ⟨fun st h => s_scope U s (fun k hk => hp k (by simpa [S.sets] using hk)) (fun {FB HB} hq => (i1 (FB := FB) (HB := HB) C hq).1) h, fun l h => by simp [mts] at h⟩
  | frO i tg b i1 => intro FB HB XW X C hp; exact ⟨fun st h => s_frO C i tg b hp (fun {FB HB} hq => (i1 (FB := FB) (HB := HB) C hq).2) h, fun l h => by simp [mts] at h⟩
  | tryk i e b i1 => intro FB HB XW X C hp; exact ⟨fun st h => s_tryk C i e b (fun XW X C => (i1 (FB := FB) (HB := HB) C fun k hk => hp k (by simp [S.sets, hk])).2) (fun k hk => hp k (by simp [S.sets] at hk ⊢; rcases hk with z | z <;> simp [z])) h, fun l h => by simp [mts] at h⟩
  | rais c => intro FB HB XW X C hp; exact ⟨fun st h => s_rais C c h, fun l h => by simp [mts] at h⟩
end
end Mn

/-! MnM: defs. -/
namespace Mn
open PySem PySem.Spec L2
open PyProof.Rows hiding St
/-- what a def's text answers -/
def runS (Φ : Fn) (γ : Gn) (fu : List D → Nat) (N n : Nat) (s : S) (ds : List D) : R D := match exec Φ γ (fu ds) s (ds ++ List.replicate (N - n) .any) with
  | .next _ => .ok .non
  | .ret d => .ok d
  | .exc c _ => .exc c
  | .bad => .bad
/-- a def keeps its promise, wherever it is called -/
def FnS (P : Program) (w : World) (K : PySem.W.Frag) (mg : Str → Option Value) (base : Heap) (k : Nat) (f : Str) (n : Nat) (Φf : List D → R D) : Prop :=
  ∃ a fd ps, mg f = some (.ref a) ∧ PySem.W.keepIn K (.ref a) = true ∧ FnOk P w K mg base (L2.CX P w) k a fd ps (spD K mg n Φf) ∧ Binds K fd ps []
theorem FnS.mono {P : Program} {w : World} {K : PySem.W.Frag} {mg : Str → Option Value} {base : Heap} {j k : Nat} {f : Str} {n : Nat} {Φf : List D → R D} (h : FnS P w K mg base j f n Φf) (l : j ≤ k) : FnS P w K mg base k f n Φf := by
  obtain ⟨a, fd, ps, h1, h2, h3, h4⟩ := h
  exact ⟨a, fd, ps, h1, h2, h3.mono l, h4⟩
/-- a constant's -/
def GlF (K : PySem.W.Frag) (mg : Str → Option Value) (γ : Gn) (x : Str) : Prop := ∃ u v, mg x = some u ∧ RelV v u ∧ ∀ F H, Same F H → γ x = .any ∨ Rep K F H (γ x) v []

theorem start_len {N : List Str} {vs : List V} (h : vs.length ≤ N.length) : (start N vs).length = N.length := by
  unfold L2.start
  simp
  omega
theorem start_rs {K : PySem.W.Frag} {F H : Hp} {N : List Str} {ds : List D} {vs : List V} (h : vs.length ≤ N.length) (hs : Same F H) (r : Reps K F H ds vs []) :
    Rs K N.length ⟨F, fun _ => none⟩ H F H (start N vs) (ds ++ List.replicate (N.length - vs.length) .any) [] [] := by
  have hl := reps_len r
  refine ⟨.refl hs, ⟨start_len h, fun i v z => (by cases z)⟩, by simp; omega, vs ++ List.replicate (N.length - vs.length) .non, [], by simp; omega, fun i hi => ?_, ?_, .nil⟩
  · by_cases c : i < vs.length
    · refine .inr ?_
      unfold L2.start
      rw [List.getElem?_append_left (by simpa using c), List.getElem?_append_left c, List.getElem?_map]
      rw [List.getElem?_eq_getElem c]
      rfl
    · refine .inl ?_
      show (ds ++ List.replicate (N.length - vs.length) Mn.D.any).getD i Mn.D.any = Mn.D.any
      rw [List.getD_eq_getElem?_getD, List.getElem?_append_right (by omega), List.getElem?_replicate]
      split <;> rfl
  · rw [List.append_nil, List.append_nil]
    have r2 : ∀ m : Nat, Reps K F H (List.replicate m .any) (List.replicate m .non) [] := by
      intro m
      induction m with
      | zero => simp [Reps]
      | succ m ih =>
        rw [List.replicate_succ, List.replicate_succ]
        have r0 : Rep K F H .any .non [] := by simp [Rep]
        exact reps_cons r0 ih (fun a ha => (List.not_mem_nil ha).elim)
    exact reps_app r (r2 _) fun a ha => (List.not_mem_nil ha).elim
theorem fn_okF {P : Program} {w : World} {K : PySem.W.Frag} {mg : Str → Option Value} {base : Heap} {f : Str} {params : Arguments} {body : List Stmt} {scope : Scope} {kws : List (Str × V)} {a : Addr} {fd : FuncData} {ps : List Str} {k : Nat}
    (T : Tab) (Φ : Fn) (γ : Gn) (fu : List D → Nat) (s : S) {qual : Str} (F : FunD K f qual params body scope [] kws a fd) (S' : FnScope T.N ps scope)
    (hm : mts T scope s (.inr body) = true) (calls : ∀ g n, (g, n) ∈ T.fns → FnS P w K mg base k g n (Φ g)) (gls : ∀ x, x ∈ T.gls → GlF K mg γ x) (bl : ∀ x, x ∈ bltNames → mg x = none) (ex : ∀ x, x ∈ T.excs → ExF K mg x) (exk : T.ex = true → ExK K mg) :
    FnOk P w K mg base (L2.CX P w) (k + 1) a fd ps (spD K mg ps.length (runS Φ γ fu T.N.length ps.length s)) := by
  refine F.ok S' (fun vs H Q E h => h.1) (fun cdv A outer st H vs Q E hr h => ?_)
  obtain ⟨hl, F0, ds, hs, r, kt⟩ := h
  have hpl : ps.length ≤ T.N.length := by
    have := congrArg List.length S'.pre
    rw [List.length_take] at this
    omega
  let XW : XWs := fun c σ H' => ∃ C, mg c = some (.ref C) ∧ E (.ref C) none H'
  have tk : Takes (cxOf (L2.CX P w) P w K mg base T.N qual scope a cdv A outer st H E) (fun cls d _ H => E cls d H) := takes_of rfl rfl rfl rfl
  have C : Cok T Φ γ XW scope (cxOf (L2.CX P w) P w K mg base T.N qual scope a cdv A outer st H E) := {
    calm := rfl
    nN := rfl
    nd := S'.nd
    keep := fun x k h _ => h
    free := fun x h => .inl h
    cell := fun _ _ => rfl
    units := by
      have := hr.un
      show (A.deeper (envOfC qual scope st.heap.objs.size a cdv)).units + 66 < cLine
      omega
    bl := bl
    call := fun g n hg => by
      obtain ⟨a', fd', ps', h1, h2, h3, h4⟩ := calls g n hg
      exact ⟨a', fd', k, ps', h1, h2, h3, hr, h4⟩
    pass := fun pins σ H1 s1 e s' I c => passes_call tk (fun cls d σ1 H2 (h : wishE mg (fun c => XW c σ) cls d H2) => by
      obtain ⟨rfl, c, C, rfl, h1, C', h2, h3⟩ := h
      rw [h1] at h2
      cases h2
      exact h3) pins σ H1 s1 e s' I c
    cls := fun c σ H' ⟨C, h, _⟩ => ⟨C, h⟩
    exk := exk
    glob := gls }
  have Sk : Sok T Φ γ XW scope (cxOf (L2.CX P w) P w K mg base T.N qual scope a cdv A outer st H E) := {
    c := C
    same := rfl
    bk := by
      show (if scope.kind.isAnnotationScope then ScopeKind.function else scope.kind) = .function
      rw [S'.kind]
      rfl
    po := passes_of rfl
    tk := tk.imp fun cls d σ H ⟨c, Ca, e1, e2, h1, Cb, h2, h3⟩ => by
      subst e1 e2
      have h1' : mg c = some (.ref Ca) := h1
      rw [h1'] at h2
      cases h2
      exact h3
    exf := ex
    stk := rfl
    frm := rfl
    exn := rfl }
  refine ⟨tSx T Φ γ (fu ds) XW ⟨F0, fun _ => none⟩ H (cxOf (L2.CX P w) P w K mg base T.N qual scope a cdv A outer st H E) s, (s_all s Sk fun _ _ => rfl).2 body hm, ?_⟩
  refine ⟨F0, ds ++ List.replicate (T.N.length - ps.length) .any, [], [], ?_, ?_⟩
  · rw [← hl]
    exact start_rs (by rw [hl]; exact hpl) hs r
  · unfold runS at kt
    cases e : exec Φ γ (fu ds) s (ds ++ List.replicate (T.N.length - ps.length) .any) with
    | next δ' =>
      rw [e] at kt
      exact fun σ' F' H' R => kt .non F' H' [] R.ex (by simp [Rep]) .nil
    | ret d =>
      rw [e] at kt
      exact fun v F' H' S1 x r f => kt v F' H' S1 x r f
    | exc c δ' =>
      rw [e] at kt
      exact fun σ' F' H' R => kt H' R.ex.h
    | bad =>
      rw [e] at kt
      exact kt.elim
theorem fn_ok {P : Program} {w : World} {K : PySem.W.Frag} {mg : Str → Option Value} {base : Heap} {f : Str} {params : Arguments} {body : List Stmt} {scope : Scope} {kws : List (Str × V)} {a : Addr} {fd : FuncData} {ps : List Str} {k : Nat}
    (T : Tab) (Φ : Fn) (γ : Gn) (fu : List D → Nat) (s : S) {qual : Str} (F : FunD K f qual params body scope [] kws a fd) (S' : FnScope T.N ps scope) (hb : Binds K fd ps []) (gf : mg f = some (.ref a))
    (hm : mts T scope s (.inr body) = true) (calls : ∀ g n, (g, n) ∈ T.fns → FnS P w K mg base k g n (Φ g)) (gls : ∀ x, x ∈ T.gls → GlF K mg γ x) (bl : ∀ x, x ∈ bltNames → mg x = none) (ex : ∀ x, x ∈ T.excs → ExF K mg x) (exk : T.ex = true → ExK K mg) :
    FnS P w K mg base (k + 1) f ps.length (runS Φ γ fu T.N.length ps.length s) :=
  ⟨a, fd, ps, gf, F.kp, fn_okF T Φ γ fu s F S' hm calls gls bl ex exk, hb⟩
/-! ### the head's facts, and one more Bool -/
def obsM (fa : List He.Fa) (fn : List He.DefD) (ex : PySem.W.Frag → Bool) (K : PySem.W.Frag) : He.AlD := ((He.obsD fa fn K).1 && ex K, (He.obsD fa fn K).2)
def obsMG (n : Nat) (fa : List He.Fa) (fn : List He.DefD) (ex : PySem.W.Frag → Bool) (g : Addr → Option Obj) : He.AlD := obsM fa fn ex (He.frG g (He.asD g n))
theorem saysM {fa : List He.Fa} {fn : List He.DefD} {ex : PySem.W.Frag → Bool} {K : PySem.W.Frag} (e : obsM fa fn ex K = He.valD fn) : He.SaysD fa fn K ∧ ex K = true := by
  have e1 : ((He.obsD fa fn K).1 && ex K) = true := congrArg (fun z : He.AlD => z.1) e
  have e2 : (obsM fa fn ex K).2 = (He.valD fn).2 := congrArg (fun z : He.AlD => z.2) e
  obtain ⟨h1, h2⟩ := He.ba e1
  exact ⟨Prod.ext h1 e2, h2⟩
def hookM (n : Nat) (fa : List He.Fa) (fn : List He.DefD) (ex : PySem.W.Frag → Bool) : PySem.W.Hook where
  α := He.AlD
  obs := fun s => obsMG n fa fn ex s.heap.get?
  val := fun _ => He.valD fn
  says := fun _ h => ∃ K : PySem.W.Frag, K.In h ∧ He.SaysD fa fn K ∧ ex K = true
  of := fun _ _ e => ⟨_, He.frG_in, saysM e⟩
  keeps := fun _ _ _ ⟨K, hK, c⟩ k => ⟨K, PySem.W.Frag.In.keeps hK k, c⟩
theorem obsMG_eq {n : Nat} {fa : List He.Fa} {fn : List He.DefD} {ex : PySem.W.Frag → Bool} {g : Addr → Option Obj} {s : Shared} (h : ∀ a, g a = s.heap.get? a) : obsMG n fa fn ex g = (hookM n fa fn ex).obs s := by
  have e : g = s.heap.get? := funext h
  rw [e] <;> rfl
/-- the defs that a def calls: name, arity, answer -/
abbrev Tb : Type := List (Str × Nat × (List D → R D))
def look : Tb → Fn
  | [], _ => fun _ => .bad
  | p :: r, f => if f = p.1 then p.2.2 else look r f
def Tb.fns (L : Tb) : List (Str × Nat) := L.map fun p => (p.1, p.2.1)
theorem calls_of {P : Program} {w : World} {K : PySem.W.Frag} {mg : Str → Option Value} {base : Heap} {k : Nat} : ∀ {L : Tb}, (L.map (·.1)).Nodup → (∀ p, p ∈ L → FnS P w K mg base k p.1 p.2.1 p.2.2) →
    ∀ g n, (g, n) ∈ L.fns → FnS P w K mg base k g n (look L g)
  | [], _, _, g, n, h => by simp [Tb.fns] at h
  | p :: r, nd, hp, g, n, h => by
    have nd2 := List.nodup_cons.mp (show (p.1 :: r.map (·.1)).Nodup from nd)
    unfold look
    rcases List.mem_cons.mp (show (g, n) ∈ (p.1, p.2.1) :: Tb.fns r from h) with e | h2
    · cases e
      rw [if_pos rfl]
      exact hp p List.mem_cons_self
    · have hg : g ≠ p.1 := by
        rintro rfl
        obtain ⟨q, hq, e⟩ := List.mem_map.mp h2
        exact nd2.1 (List.mem_map.mpr ⟨q, hq, (Prod.mk.inj e).1⟩)
      rw [if_neg hg]
      exact calls_of nd2.2 (fun q hq => hp q (List.mem_cons_of_mem _ hq)) g n h2
theorem all_nil {α : Type} {P : α → Prop} : ∀ p, p ∈ ([] : List α) → P p := fun _ h => (List.not_mem_nil h).elim
theorem all_cons {α : Type} {P : α → Prop} {a : α} {l : List α} (h : P a) (t : ∀ p, p ∈ l → P p) : ∀ p, p ∈ a :: l → P p := fun p hp => (List.mem_cons.mp hp).elim (fun e => by rw [e]; exact h) (t p)
section
variable {K : PySem.W.Frag} {h : Heap} {mg : Str → Option Value} {γ : Gn}
theorem gl_int (X : K.In h) (G : h.Ns mainGlobals mg) {x : Str} {i : Int} (c : (He.Fa.int x i).ok K = true) (e : γ x = .int i) : GlF K mg γ x := by
  obtain ⟨t, ht⟩ := He.int_ok X G c
  exact ⟨_, .int i, ht, ⟨t, rfl⟩, fun F H _ => .inr (by rw [e]; simp [Rep])⟩
theorem gl_str (X : K.In h) (G : h.Ns mainGlobals mg) {x z : Str} (c : (He.Fa.str x z).ok K = true) (e : γ x = .str z) : GlF K mg γ x := by
  obtain ⟨t, ht⟩ := He.str_ok X G c
  exact ⟨_, .str z, ht, ⟨t, rfl⟩, fun F H _ => .inr (by rw [e]; simp [Rep])⟩
theorem ex_f (X : K.In h) (G : h.Ns mainGlobals mg) {x : Str} (c1 : (He.Fa.glo x).ok K = true) (c2 : (He.Fa.exc x).ok K = true) (nd : (x == ("__debug__" : Str)) = false) : ExF K mg x := by
  obtain ⟨h1, h2, h3, h4⟩ := He.exc_ok c2
  exact ⟨⟨_, He.glo_ok X G c1, h1, h2, h3, h4⟩, nd⟩
theorem bl_of (X : K.In h) (G : h.Ns mainGlobals mg) (c : ∀ x, x ∈ bltNames → (He.Fa.free x).ok K = true) : ∀ x, x ∈ bltNames → mg x = none := fun x hx => He.free_ok X G (c x hx)
end
/-- the script, as the law gets it -/
def script (ns : List Int) : D := .lst .ro (ns.map .int)
theorem reps_map_int {K : PySem.W.Frag} {F H : Hp} : ∀ ns : List Int, Reps K F H (ns.map .int) (ns.map V.int) []
  | [] => by simp [Reps]
  | n :: ns => by
    have r0 : Rep K F H (.int n) (.int n) [] := by simp [Rep]
    exact reps_cons r0 (reps_map_int ns) fun a ha => (List.not_mem_nil ha).elim
theorem law_sp {K : PySem.W.Frag} {mg : Str → Option Value} {Φf : List D → R D} {H : Hp} {a : Addr} {ns : List Int} (hs : SqL K H a (ns.map V.int)) (h : Φf [script ns] = .ok (.bl true)) :
    spD K mg 1 Φf [.ref a] H (fun v _ => v = .bl true) E0 := by
  refine ⟨rfl, H, [script ns], .refl _, ?_, ?_⟩
  · have r0 : Rep K H H (script ns) (.ref a) [] := by
      unfold script
      simp only [Rep]
      exact ⟨a, _, rfl, hs, reps_map_int ns, trivial⟩
    exact reps_cons r0 (by simp [Reps]) fun a ha => (List.not_mem_nil ha).elim
  · rw [h]
    intro v F' H' S e r f
    exact (rep_bl r).1
/-- a def that lets nothing out, as the law wants it -/
theorem to0 {P : Program} {w : World} {K : PySem.W.Frag} {mg : Str → Option Value} {base : Heap} {k : Nat} {f : Addr} {fd : FuncData} {ps : List Str} {sp : Sp} (F : FnOk P w K mg base (L2.CX P w) k f fd ps sp) :
    FnOk P w K mg base CX0 k f fd ps (fun vs H Q _ => sp vs H Q E0) :=
  ⟨fun vs H Q E h => F.len _ _ _ _ h, fun A outer s H args us vs Q E hr he hb hv hs => codeAny_mono (F.run A outer s H args us vs Q E0 hr he hb hv hs) fun r s' hq => by
    cases r with
    | ok fl => cases fl <;> exact hq
    | error e =>
      have hq' : L2.CX P w outer H s E0 e s' := hq
      obtain ⟨_, _, _, _, _, _, _, _, _, _, _, _, z⟩ := hq'
      exact z.elim⟩
end Mn

/-! MnP: a text is gone through: one law for each form (for simp), loops, lists of whole numbers and of pairs. -/
namespace Mn
open PySem PySem.Spec L2
open PyProof.Rows hiding St

/-- whole numbers, pairs of them, as a list's items -/
def dl (l : List Int) : List D := l.map D.int
def dP (p : Int × Int) : D := .tup [.int p.1, .int p.2]
def dps (l : List (Int × Int)) : List D := l.map dP
@[simp] theorem LIM_eq : LIM = 16777216 := rfl
theorem script_dl {ns : List Int} : script ns = .lst .ro (dl ns) := rfl
section
variable {Φ : Fn} {γ : Gn} {fu : Nat} {δ : List D}
/-! ### outcomes -/
@[simp] theorem thn_next {f : List D → O} : (O.next δ).thn f = f δ := rfl
@[simp] theorem thn_ret {d : D} {f : List D → O} : (O.ret d).thn f = .ret d := rfl
@[simp] theorem thn_exc {c : Str} {f : List D → O} : (O.exc c δ).thn f = .exc c δ := rfl
@[simp] theorem thn_bad {f : List D → O} : O.bad.thn f = .bad := rfl
@[simp] theorem of_ok {δ' : List D} : O.of δ (.ok δ') = .next δ' := rfl
@[simp] theorem of_exc {c : Str} : O.of δ (.exc c) = .exc c δ := rfl
@[simp] theorem of_bad : O.of δ .bad = .bad := rfl
@[simp] theorem ifR_bl {q : Bool} {a b : O} : O.ifR δ (.ok (.bl q)) a b = if q = true then a else b := by cases q <;> rfl
@[simp] theorem ifR_exc {c : Str} {a b : O} : O.ifR δ (.exc c) a b = .exc c δ := rfl
/-! ### statements -/
@[simp] theorem ex_nil : exec Φ γ fu .nil δ = .next δ := rfl
@[simp] theorem ex_cons {s ss : S} : exec Φ γ fu (.cons s ss) δ = (exec Φ γ fu s δ).thn (exec Φ γ fu ss) := rfl
@[simp] theorem ex_pass : exec Φ γ fu .pass δ = .next δ := rfl
@[simp] theorem ex_set {tg : Tg} {e : M} : exec Φ γ fu (.set tg e) δ = .of δ (evT Φ γ e δ >>= fun y => asg false tg [y.1] y.2) := rfl
@[simp] theorem ex_setC {i : Nat} {e : M} : exec Φ γ fu (.setC i e) δ = .of δ (evX Φ γ e δ >>= fun y => asg false (.nm i) [y.1] y.2) := rfl
@[simp] theorem ex_setCK {i : Nat} {e : M} : exec Φ γ fu (.setCK i e) δ = .of δ (evK Φ γ e δ >>= fun y => asg false (.nm i) [y.1] y.2) := rfl
@[simp] theorem ex_setCX {i : Nat} {e : M} : exec Φ γ fu (.setCX i e) δ = .of δ (evCX Φ γ e δ >>= fun y => asg false (.nm i) [y.1] y.2) := rfl
theorem ex_retCX {e : M} : exec Φ γ fu (.retCX e) δ = (match evCX Φ γ e δ with
    | .ok (d, _) => .ret d
    | .exc c => .exc c δ
    | .bad => .bad) := rfl
@[simp] theorem evCX_def {e : M} : evCX Φ γ e δ = (evC Φ γ e (D.frzs δ) >>= fun d => if d.pur then .ok (d, δ) else .ok (d, frzU e.uses 0 δ)) := rfl
@[simp] theorem ex_setCO {i : Nat} {e : M} : exec Φ γ fu (.setCO i e) δ = .of δ (evO Φ γ e δ >>= fun y => asg false (.nm i) [y.1] y.2) := rfl
@[simp] theorem ex_app {p : Pl} {e : M} : exec Φ γ fu (.app p e) δ = .of δ (ownAt δ p >>= fun _ => evT Φ γ e δ >>= fun y => ownAt y.2 p >>= fun ds => if ds.length < LIM then .ok (setP y.2 p (.lst .own (ds ++ [y.1]))) else .bad) := rfl
@[simp] theorem ex_ins {p : Pl} {i e : M} : exec Φ γ fu (.ins p i e) δ = .of δ (ownAt δ p >>= fun _ => ev Φ γ i (D.frzs δ) >>= fun k => intOf k >>= fun k => evT Φ γ e δ >>= fun y => ownAt y.2 p >>= fun ds =>
    if ds.length < LIM ∧ 0 ≤ k ∧ k < 2 ^ 63 then .ok (setP y.2 p (.lst .own (ds.take k.toNat ++ [y.1] ++ ds.drop k.toNat))) else .bad) := rfl
@[simp] theorem ex_clr {p : Pl} : exec Φ γ fu (.clr p) δ = .of δ (ownAt δ p >>= fun _ => .ok (setP δ p (.lst .own []))) := rfl
@[simp] theorem ex_ife {c : M} {a b : S} : exec Φ γ fu (.ife c a b) δ = O.ifR δ (ev Φ γ c (D.frzs δ)) (exec Φ γ fu a δ) (exec Φ γ fu b δ) := rfl
/-- a loop's turn -/
def body (Φ : Fn) (γ : Gn) (fu : Nat) (tg : Tg) (b : S) (d : D) (δ : List D) : O := (O.of δ (asg false tg [d] δ)).thn (exec Φ γ fu b)
theorem body_ap {tg : Tg} {b : S} {d : D} : body Φ γ fu tg b d δ = (O.of δ (asg false tg [d] δ)).thn (exec Φ γ fu b) := rfl
@[simp] theorem ex_fr {tg : Tg} {it : M} {b : S} : exec Φ γ fu (.fr tg it b) δ = match evI Φ γ it δ with
    | .ok (args, δ1) => (match itJ it args with
      | .ok items => loopF (body Φ γ fu tg b) items δ1
      | _ => .bad)
    | .exc c => .exc c δ
    | .bad => .bad := rfl
@[simp] theorem ex_ret {e : M} : exec Φ γ fu (.ret e) δ = match evT Φ γ e δ with
    | .ok (d, _) => .ret d
    | .exc c => .exc c δ
    | .bad => .bad := rfl
@[simp] theorem ex_fclr {tg : Tg} {p q : Pl} : exec Φ γ fu (.fclr tg p q) δ = match ownAt δ p with
    | .ok ds => fclrL tg p q ds.length ds.length δ
    | _ => .bad := rfl
@[simp] theorem ex_fapp {tg : Tg} {p q : Pl} {jj : Int} : exec Φ γ fu (.fapp tg p q jj) δ = match ownAt δ p with
    | .ok ds => fappL tg p q jj ds.length ds.length δ
    | _ => .bad := rfl
@[simp] theorem ex_fappE {i j : Nat} {p : Pl} : exec Φ γ fu (.fappE i j p) δ = match ownAt δ p with
    | .ok ds => fappEL i j p ds.length ds.length δ
    | _ => .bad := rfl
theorem ex_frO {i : Nat} {tg : Tg} {b : S} {ds : List D} (h : getD' δ i = .lst .own ds) : exec Φ γ fu (.frO i tg b) δ = match loopF (body Φ γ fu tg b) ds (δ.set i .any) with
    | .next δ' => .next (δ'.set i (.lst .own (anys ds.length)))
    | o => o := by
  show (match getD' δ i with
    | .lst .own ds => (match loopF (body Φ γ fu tg b) ds (δ.set i .any) with
      | .next δ' => O.next (δ'.set i (.lst .own (anys ds.length)))
      | o => o)
    | _ => .bad) = _
  rw [h]
@[simp] theorem ex_scope {U : List Nat} {s : S} : exec Φ γ fu (.scope U s) δ = scopeO U s.sets δ (exec Φ γ fu s (frzU U 0 δ)) := rfl
@[simp] theorem sco_next {U A : List Nat} {δ' : List D} : scopeO U A δ (.next δ') = .next (scopeD U A 0 δ δ') := rfl
@[simp] theorem sco_ret {U A : List Nat} {d : D} : scopeO U A δ (.ret d) = .ret d := rfl
@[simp] theorem scopeD_nil {U A : List Nat} {k : Nat} : scopeD U A k [] [] = [] := rfl
@[simp] theorem scopeD_cons {U A : List Nat} {k : Nat} {d e : D} {ds es : List D} : scopeD U A k (d :: ds) (e :: es) = (if k ∈ U then d else if k ∉ A ∧ d.bare = true then d else if e.pur = true then e else .any) :: scopeD U A (k + 1) ds es := rfl
@[simp] theorem ex_par {i j : Nat} {a b : M} : exec Φ γ fu (.par i j a b) δ = .of δ (evT Φ γ a δ >>= fun x => evT Φ γ b x.2 >>= fun y => .ok ((y.2.set i x.1).set j y.1)) := id rfl
@[simp] theorem ex_rais {c : Str} : exec Φ γ fu (.rais c) δ = .exc c δ := rfl
@[simp] theorem ex_aug {i : Nat} {e : M} : exec Φ γ fu (.aug i e) δ = .of δ (intOf (getD' δ i) >>= fun x => ev Φ γ e (D.frzs δ) >>= fun y => intOf y >>= fun y => .ok (δ.set i (.int (x + y)))) := rfl
/-! ### the top of a statement -/
@[simp] theorem et_mv {i : Nat} : evT Φ γ (.mv i) δ = (rd (getD' δ i) >>= fun d => .ok (d, δ.set i .any)) := rfl
@[simp] theorem et_mvT {i : Nat} : evT Φ γ (.mvT i) δ = tlT (getD' δ i) (δ.set i .any) := rfl
@[simp] theorem tlT_tup {d : D} {ds : List D} : tlT (.tup (d :: ds)) δ = .ok (.tup ds, δ) := rfl
@[simp] theorem et_nil : evT Φ γ .nil δ = .ok (.tup [], δ) := rfl
@[simp] theorem et_cons {a as : M} : evT Φ γ (.cons a as) δ = (evT Φ γ a δ >>= fun x => evT Φ γ as x.2 >>= fun y => tupOf y.1 >>= fun l => .ok (.tup (x.1 :: l), y.2)) := rfl
@[simp] theorem et_tup {es : M} : evT Φ γ (.tup es) δ = (evT Φ γ es δ >>= fun y => tupOf y.1 >>= fun l => if l.length ≤ LIM then .ok (.tup l, y.2) else .bad) := rfl
@[simp] theorem et_slot {i : Nat} : evT Φ γ (.slot i) δ = evX Φ γ (.slot i) δ := rfl
@[simp] theorem et_int {i : Int} : evT Φ γ (.int i) δ = .ok (.int i, δ) := rfl
@[simp] theorem et_str {i : Str} : evT Φ γ (.str i) δ = .ok (.str i, δ) := rfl
@[simp] theorem et_bl {i : Bool} : evT Φ γ (.bl i) δ = .ok (.bl i, δ) := rfl
@[simp] theorem et_non : evT Φ γ .non δ = .ok (.non, δ) := rfl
@[simp] theorem et_bin {o : Bop} {a b : M} : evT Φ γ (.bin o a b) δ = evX Φ γ (.bin o a b) δ := rfl
@[simp] theorem et_neg {a : M} : evT Φ γ (.neg a) δ = evX Φ γ (.neg a) δ := rfl
@[simp] theorem et_cmp {o : Cop} {a b : M} : evT Φ γ (.cmp o a b) δ = evX Φ γ (.cmp o a b) δ := rfl
@[simp] theorem et_not {a : M} : evT Φ γ (.not a) δ = evX Φ γ (.not a) δ := rfl
@[simp] theorem et_and {a b : M} : evT Φ γ (.and a b) δ = evX Φ γ (.and a b) δ := rfl
@[simp] theorem et_or {a b : M} : evT Φ γ (.or a b) δ = evX Φ γ (.or a b) δ := rfl
@[simp] theorem et_list {es : M} : evT Φ γ (.list es) δ = evX Φ γ (.list es) δ := rfl
@[simp] theorem et_sub {a b : M} : evT Φ γ (.sub a b) δ = evX Φ γ (.sub a b) δ := rfl
@[simp] theorem et_slice {a b c : M} : evT Φ γ (.slice a b c) δ = evX Φ γ (.slice a b c) δ := rfl
@[simp] theorem et_rev {a : M} : evT Φ γ (.rev a) δ = evX Φ γ (.rev a) δ := rfl
@[simp] theorem et_call {f : Str} {es : M} : evT Φ γ (.call f es) δ = evX Φ γ (.call f es) δ := rfl
@[simp] theorem et_blt {b : Blt} {es : M} : evT Φ γ (.blt b es) δ = evX Φ γ (.blt b es) δ := rfl
@[simp] theorem et_split {a b : M} : evT Φ γ (.split a b) δ = evX Φ γ (.split a b) δ := rfl
@[simp] theorem et_join {a b : M} : evT Φ γ (.join a b) δ = evX Φ γ (.join a b) δ := rfl
@[simp] theorem et_cnt {a b : M} : evT Φ γ (.cnt a b) δ = evX Φ γ (.cnt a b) δ := rfl
@[simp] theorem et_idx {a b : M} : evT Φ γ (.idx a b) δ = evX Φ γ (.idx a b) δ := rfl
@[simp] theorem et_isi {a : M} {t : Ty} : evT Φ γ (.isi a t) δ = evX Φ γ (.isi a t) δ := rfl
@[simp] theorem et_comp {elt : M} {tg : Tg} {it c : M} {own : List (Str × Nat)} : evT Φ γ (.comp elt tg it c own) δ = evX Φ γ (.comp elt tg it c own) δ := rfl
@[simp] theorem et_keep {e : M} : evT Φ γ (.keep e) δ = evK Φ γ e δ := rfl
@[simp] theorem et_thaw {e : M} : evT Φ γ (.thaw e) δ = evO Φ γ e δ := rfl
/-- nothing is frozen where nothing is held; where the answer is no such list it is told by evK_let -/
theorem evK_def {e : M} : evK Φ γ e δ = (ev Φ γ e (D.frzs δ) >>= fun d => if d.pur then .ok (d, δ) else .ok (d, frzU (e.uses.filter fun i => !awayD d (getD' δ i)) 0 δ)) := rfl
theorem evO_def {e : M} : evO Φ γ e δ = (ev Φ γ e (vuO δ) >>= fun d => if d.pur then .ok (d, δ) else if sepD d then .ok (d.thaw, anyU e.uses 0 δ) else .bad) := rfl
@[simp] theorem vuO_nil : vuO [] = [] := rfl
@[simp] theorem vuO_cons {d : D} {ds : List D} : vuO (d :: ds) = (if d.pur then d.frz else .any) :: vuO ds := rfl
@[simp] theorem anyU_nil {U : List Nat} {k : Nat} : anyU U k [] = [] := rfl
@[simp] theorem anyU_cons {U : List Nat} {k : Nat} {d : D} {ds : List D} : anyU U k (d :: ds) = (if k ∈ U then .any else d) :: anyU U (k + 1) ds := rfl
@[simp] theorem evX_def {e : M} : evX Φ γ e δ = (ev Φ γ e (D.frzs δ) >>= fun d => if d.pur then .ok (d, δ) else .ok (d, frzU e.uses 0 δ)) := rfl
@[simp] theorem frzU_nil {U : List Nat} {k : Nat} : frzU U k [] = [] := rfl
@[simp] theorem frzU_cons {U : List Nat} {k : Nat} {d : D} {ds : List D} : frzU U k (d :: ds) = (if k ∈ U then d.frz else d) :: frzU U (k + 1) ds := rfl
@[simp] theorem ei_its {a : M} : evI Φ γ (.its a) δ = (evT Φ γ a δ >>= fun y => .ok ([y.1], y.2)) := rfl
@[simp] theorem ei_r1 {a : M} : evI Φ γ (.it .range1 a) δ = (evT Φ γ a δ >>= fun y => tupOf y.1 >>= fun l => .ok (l, y.2)) := id rfl
@[simp] theorem ei_r2 {a : M} : evI Φ γ (.it .range2 a) δ = (evT Φ γ a δ >>= fun y => tupOf y.1 >>= fun l => .ok (l, y.2)) := id rfl
@[simp] theorem ei_r3 {a : M} : evI Φ γ (.it .range3 a) δ = (evT Φ γ a δ >>= fun y => tupOf y.1 >>= fun l => .ok (l, y.2)) := id rfl
@[simp] theorem ei_en {a : M} : evI Φ γ (.it .enum a) δ = (evT Φ γ a δ >>= fun y => tupOf y.1 >>= fun l => .ok (l, y.2)) := id rfl
@[simp] theorem itJ_its {a : M} {d : D} : itJ (.its a) [d] = itemsOf d := rfl
@[simp] theorem itJ_it {k : Ik} {a : M} {l : List D} : itJ (.it k a) l = (itop k l >>= fun y => tupOf y) := id rfl
/-! ### expressions -/
@[simp] theorem ev_slot {i : Nat} : ev Φ γ (.slot i) δ = rd (getD' δ i) := by
  unfold rd
  simp only [ev]
  all_goals (cases getD' δ i <;> rfl)
@[simp] theorem ev_glob {x : Str} : ev Φ γ (.glob x) δ = rd (γ x) := by
  unfold rd
  simp only [ev]
  all_goals (cases γ x <;> rfl)
@[simp] theorem ev_int {i : Int} : ev Φ γ (.int i) δ = .ok (.int i) := rfl
@[simp] theorem ev_str {i : Str} : ev Φ γ (.str i) δ = .ok (.str i) := rfl
@[simp] theorem ev_bl {i : Bool} : ev Φ γ (.bl i) δ = .ok (.bl i) := rfl
@[simp] theorem ev_non : ev Φ γ .non δ = .ok .non := rfl
@[simp] theorem ev_yes : ev Φ γ .yes δ = .ok (.bl true) := rfl
@[simp] theorem ev_bin {o : Bop} {a b : M} : ev Φ γ (.bin o a b) δ = (ev Φ γ a δ >>= fun x => ev Φ γ b δ >>= fun y => binop o x y) := rfl
@[simp] theorem ev_cmp {o : Cop} {a b : M} : ev Φ γ (.cmp o a b) δ = (ev Φ γ a δ >>= fun x => ev Φ γ b δ >>= fun y => cmpop o x y) := rfl
@[simp] theorem ev_not {a : M} : ev Φ γ (.not a) δ = (ev Φ γ a δ >>= fun x => blOf x >>= fun q => .ok (.bl (!q))) := rfl
@[simp] theorem ev_and {a b : M} : ev Φ γ (.and a b) δ = (ev Φ γ a δ >>= fun x => blOf x >>= fun q => if q then (ev Φ γ b δ >>= fun y => blOf y >>= fun q => .ok (.bl q)) else .ok (.bl false)) := rfl
@[simp] theorem ev_or {a b : M} : ev Φ γ (.or a b) δ = (ev Φ γ a δ >>= fun x => blOf x >>= fun q => if q then .ok (.bl true) else (ev Φ γ b δ >>= fun y => blOf y >>= fun q => .ok (.bl q))) := rfl
@[simp] theorem ev_nil : ev Φ γ .nil δ = .ok (.tup []) := rfl
@[simp] theorem ev_cons {a as : M} : ev Φ γ (.cons a as) δ = (ev Φ γ a δ >>= fun x => ev Φ γ as δ >>= fun y => tupOf y >>= fun l => .ok (.tup (x :: l))) := rfl
@[simp] theorem ev_tup {es : M} : ev Φ γ (.tup es) δ = (ev Φ γ es δ >>= fun y => tupOf y >>= fun l => if l.length ≤ LIM then .ok (.tup l) else .bad) := rfl
@[simp] theorem ev_list {es : M} : ev Φ γ (.list es) δ = (ev Φ γ es δ >>= fun y => tupOf y >>= fun l => if l.length ≤ LIM then .ok (.lst .own l) else .bad) := rfl
@[simp] theorem ev_sub {a i : M} : ev Φ γ (.sub a i) δ = (ev Φ γ a δ >>= fun x => ev Φ γ i δ >>= fun y => ixop x y) := id rfl
@[simp] theorem ev_rev {a : M} : ev Φ γ (.rev a) δ = (ev Φ γ a δ >>= fun x => revop x) := rfl
@[simp] theorem ev_call {f : Str} {es : M} : ev Φ γ (.call f es) δ = (ev Φ γ es δ >>= fun y => tupOf y >>= fun l => Φ f (D.frzs l)) := id rfl
@[simp] theorem ev_blt {b : Blt} {es : M} : ev Φ γ (.blt b es) δ = (ev Φ γ es δ >>= fun y => tupOf y >>= fun l => bltop b l) := id rfl
@[simp] theorem ev_isi {a : M} {t : Ty} : ev Φ γ (.isi a t) δ = (ev Φ γ a δ >>= fun x => isop x t) := rfl
@[simp] theorem ev_lenset {a : M} : ev Φ γ (.lenset a) δ = (ev Φ γ a δ >>= fun x => setop x) := rfl
@[simp] theorem ev_its {a : M} : ev Φ γ (.its a) δ = (ev Φ γ a δ >>= fun x => itemsOf x >>= fun ds => .ok (.tup ds)) := rfl
@[simp] theorem ev_it {k : Ik} {es : M} : ev Φ γ (.it k es) δ = (ev Φ γ es δ >>= fun y => tupOf y >>= fun l => itop k l) := id rfl
theorem ev_neg {a : M} {i : Int} (h : ev Φ γ a δ = .ok (.int i)) : ev Φ γ (.neg a) δ = .ok (.int (-i)) := by
  simp only [ev, h, R.bind_ok]
@[simp] theorem ev_negi {i : Int} : ev Φ γ (.neg (.int i)) δ = .ok (.int (-i)) := rfl
theorem ev_slo {a lo : M} (h : lo.isNil = false) : ev Φ γ (.slice a lo .nil) δ = (ev Φ γ a δ >>= fun x => ev Φ γ lo δ >>= fun l => intOf l >>= fun l => slop x (some l) none) := by
  simp only [ev, h]
  rfl
theorem ev_shi {a hi : M} (h : hi.isNil = false) : ev Φ γ (.slice a .nil hi) δ = (ev Φ γ a δ >>= fun x => ev Φ γ hi δ >>= fun l => intOf l >>= fun l => slop x none (some l)) := by
  simp only [ev, h]
  rfl
@[simp] theorem nil_int {i : Int} : (M.int i).isNil = false := rfl
@[simp] theorem nil_neg {a : M} : (M.neg a).isNil = false := rfl
@[simp] theorem nil_bin {o : Bop} {a b : M} : (M.bin o a b).isNil = false := rfl
/-- a comprehension's turn -/
def turn (Φ : Fn) (γ : Gn) (elt : M) (tg : Tg) (cond : M) (own : List (Str × Nat)) (δ : List D) (d : D) : R (Option D) := noX (asg true tg [d] (wipeD δ (own.map (·.2))) >>= fun δ' => ev Φ γ cond δ' >>= fun c => blOf c >>= fun q => if q then (ev Φ γ elt δ' >>= fun e => .ok (some e)) else .ok none)
@[simp] theorem ev_comp {elt : M} {tg : Tg} {it cond : M} {own : List (Str × Nat)} : ev Φ γ (.comp elt tg it cond own) δ = (ev Φ γ it δ >>= fun y => tupOf y >>= fun ds => if ds.length < LIM then (compL (turn Φ γ elt tg cond own δ) ds >>= fun rs => .ok (.lst .own rs)) else .bad) := id rfl
/-! ### little ones -/
@[simp] theorem getD_0 {d : D} {ds : List D} : getD' (d :: ds) 0 = d := rfl
@[simp] theorem getD_s {d : D} {ds : List D} {n : Nat} : getD' (d :: ds) (n + 1) = getD' ds n := rfl
@[simp] theorem rd_int {i : Int} : rd (.int i) = .ok (.int i) := rfl
@[simp] theorem rd_str {i : Str} : rd (.str i) = .ok (.str i) := rfl
@[simp] theorem rd_bl {i : Bool} : rd (.bl i) = .ok (.bl i) := rfl
@[simp] theorem rd_tup {i : List D} : rd (.tup i) = .ok (.tup i) := rfl
@[simp] theorem rd_lst {k : LK} {i : List D} : rd (.lst k i) = .ok (.lst k i) := rfl
@[simp] theorem rd_non : rd .non = .ok .non := rfl
@[simp] theorem intOf_int {i : Int} : intOf (.int i) = .ok i := rfl
@[simp] theorem blOf_bl {i : Bool} : blOf (.bl i) = .ok i := rfl
@[simp] theorem tupOf_tup {l : List D} : tupOf (.tup l) = .ok l := rfl
@[simp] theorem itemsOf_lst {k : LK} {l : List D} : itemsOf (.lst k l) = .ok l := rfl
@[simp] theorem itemsOf_tup {l : List D} : itemsOf (.tup l) = .ok l := rfl
@[simp] theorem noX_ok {α : Type} {a : α} : noX (R.ok a) = .ok a := rfl
@[simp] theorem frz_int {i : Int} : (D.int i).frz = .int i := by simp [D.frz]
@[simp] theorem frz_str {i : Str} : (D.str i).frz = .str i := by simp [D.frz]
@[simp] theorem frz_bl {i : Bool} : (D.bl i).frz = .bl i := by simp [D.frz]
@[simp] theorem frz_non : D.non.frz = .non := by simp [D.frz]
@[simp] theorem frz_tup {l : List D} : (D.tup l).frz = .tup (D.frzs l) := by simp [D.frz]
@[simp] theorem frz_own {l : List D} : (D.lst .own l).frz = .lst .frz (D.frzs l) := by simp [D.frz]
@[simp] theorem frz_frz {l : List D} : (D.lst .frz l).frz = .lst .frz (D.frzs l) := by simp [D.frz]
@[simp] theorem frz_ro {l : List D} : (D.lst .ro l).frz = .lst .ro (D.frzs l) := by simp [D.frz]
@[simp] theorem frzs_nil : D.frzs [] = [] := by simp [D.frzs]
@[simp] theorem frzs_cons {d : D} {l : List D} : D.frzs (d :: l) = d.frz :: D.frzs l := by simp [D.frzs]
@[simp] theorem frzs_app {l m : List D} : D.frzs (l ++ m) = D.frzs l ++ D.frzs m := by simp [D.frzs_eq]
@[simp] theorem frzs_ints {l : List Int} : D.frzs (dl l) = dl l := by
  unfold dl
  rw [D.frzs_eq, List.map_map]
  exact List.map_congr_left fun x _ => frz_int
@[simp] theorem pur_int {i : Int} : (D.int i).pur = true := by simp [D.pur]
@[simp] theorem pur_str {i : Str} : (D.str i).pur = true := by simp [D.pur]
@[simp] theorem pur_bl {i : Bool} : (D.bl i).pur = true := by simp [D.pur]
@[simp] theorem pur_non : D.non.pur = true := by simp [D.pur]
@[simp] theorem pur_any : D.any.pur = true := by simp [D.pur]
@[simp] theorem pur_tup {l : List D} : (D.tup l).pur = D.purs l := by simp [D.pur]
@[simp] theorem pur_own {l : List D} : (D.lst .own l).pur = D.purs l := by simp [D.pur]
@[simp] theorem pur_frz {l : List D} : (D.lst .frz l).pur = false := by simp [D.pur]
@[simp] theorem pur_ro {l : List D} : (D.lst .ro l).pur = false := by simp [D.pur]
@[simp] theorem purs_nil : D.purs [] = true := by simp [D.purs]
@[simp] theorem purs_cons {d : D} {l : List D} : D.purs (d :: l) = (d.pur && D.purs l) := by simp [D.purs]
@[simp] theorem purs_app {l m : List D} : D.purs (l ++ m) = (D.purs l && D.purs m) := by simp [D.purs_eq]
@[simp] theorem purs_ints {l : List Int} : D.purs (dl l) = true := by
  rw [D.purs_eq]
  simp [dl]
theorem dP_mk {a b : Int} : dP (a, b) = .tup [.int a, .int b] := rfl
@[simp] theorem frz_dP {p : Int × Int} : (dP p).frz = dP p := by simp [dP]
@[simp] theorem pur_dP {p : Int × Int} : (dP p).pur = true := by simp [dP]
@[simp] theorem frzs_dPs {l : List (Int × Int)} : D.frzs (dps l) = dps l := by
  unfold dps
  rw [D.frzs_eq, List.map_map]
  exact List.map_congr_left fun x _ => frz_dP
@[simp] theorem purs_dPs {l : List (Int × Int)} : D.purs (dps l) = true := by
  rw [D.purs_eq]
  simp [dps]
@[simp] theorem asg_nm {fz : Bool} {i : Nat} {d : D} : asg fz (.nm i) [d] δ = .ok (δ.set i (if fz then d.frz else d)) := rfl
@[simp] theorem asg_tup {fz : Bool} {ts : Tg} {ds : List D} : asg fz (.tup ts) [.tup ds] δ = asg fz ts ds δ := rfl
@[simp] theorem asg_lst {fz : Bool} {ts : Tg} {k : LK} {ds : List D} : asg fz (.tup ts) [.lst k ds] δ = asg fz ts ds δ := rfl
@[simp] theorem asg_dP {fz : Bool} {ts : Tg} {p : Int × Int} : asg fz (.tup ts) [dP p] δ = asg fz ts [.int p.1, .int p.2] δ := rfl
@[simp] theorem asg_nil {fz : Bool} : asg fz .nil [] δ = .ok δ := rfl
@[simp] theorem asg_cons {fz : Bool} {t ts : Tg} {d : D} {ds : List D} : asg fz (.cons t ts) (d :: ds) δ = (asg fz t [d] δ >>= fun δ' => asg fz ts ds δ') := rfl
@[simp] theorem wipe_nil : wipeD δ [] = δ := rfl
@[simp] theorem wipe_cons {v : Nat} {vs : List Nat} : wipeD δ (v :: vs) = (wipeD δ vs).set v .any := rfl
@[simp] theorem bo_add {i j : Int} : binop .add (.int i) (.int j) = .ok (.int (i + j)) := id rfl
@[simp] theorem bo_sub {i j : Int} : binop .sub (.int i) (.int j) = .ok (.int (i - j)) := id rfl
theorem bo_mul {i j : Int} (h : (-(2 ^ 64) < i ∧ i < 2 ^ 64) ∨ (-(2 ^ 64) < j ∧ j < 2 ^ 64)) : binop .mul (.int i) (.int j) = .ok (.int (i * j)) := by
  have : okMul i j = true := by
    unfold okMul
    rcases h with h | h
    · rw [decide_eq_true (show i.natAbs < 18446744073709551616 by omega)]; rfl
    · rw [decide_eq_true (show j.natAbs < 18446744073709551616 by omega), Bool.or_true]
  show (if okMul i j = true then _ else _) = _
  rw [if_pos this]
theorem bo_fdiv {i j : Int} (h : 0 < j) (h2 : j < 1073741824) : binop .fdiv (.int i) (.int j) = .ok (.int (i / j)) := by
  have : okDiv j = true := by
    unfold okDiv
    simp
    omega
  show (if okDiv j = true then _ else _) = _
  rw [if_pos this, Int.fdiv_eq_ediv_of_nonneg _ (by omega)]
theorem bo_mod {i j : Int} (h : 0 < j) : binop .mod (.int i) (.int j) = .ok (.int (i % j)) := by
  show (if j = 0 then _ else _) = _
  rw [if_neg (by omega), Int.fmod_eq_emod_of_nonneg _ (by omega)]
@[simp] theorem bo_e18 : binop .pow (.int 10) (.int 18) = .ok (.int 1000000000000000000) := by
  show (if okPow 10 18 = true then R.ok (D.int (10 ^ (18 : Int).toNat)) else .bad) = _
  rw [if_pos (by decide)]
  rfl
@[simp] theorem bo_e6 : binop .pow (.int 10) (.int 6) = .ok (.int 1000000) := by
  show (if okPow 10 6 = true then R.ok (D.int (10 ^ (6 : Int).toNat)) else .bad) = _
  rw [if_pos (by decide)]
  rfl
@[simp] theorem co_lt {i j : Int} : cmpop .lt (.int i) (.int j) = .ok (.bl (decide (i < j))) := rfl
@[simp] theorem co_le {i j : Int} : cmpop .le (.int i) (.int j) = .ok (.bl (decide (i ≤ j))) := rfl
@[simp] theorem co_gt {i j : Int} : cmpop .gt (.int i) (.int j) = .ok (.bl (decide (j < i))) := rfl
@[simp] theorem co_ge {i j : Int} : cmpop .ge (.int i) (.int j) = .ok (.bl (decide (j ≤ i))) := rfl
@[simp] theorem co_eq {i j : Int} : cmpop .eq (.int i) (.int j) = .ok (.bl (decide (i = j))) := by
  show (if (SeqAt.shaped (.int i) && SeqAt.shaped (.int j)) = true then R.ok (PyData.eqv (.int i) (.int j)) else R.bad) >>= (fun k => R.ok (D.bl k)) = _
  have : PyData.eqv (.int i) (.int j) = decide (i = j) := by
    simp [PyData.eqv]
    rfl
  rw [this]
  rfl
@[simp] theorem co_ne {i j : Int} : cmpop .ne (.int i) (.int j) = .ok (.bl (!decide (i = j))) := by
  show (if (SeqAt.shaped (.int i) && SeqAt.shaped (.int j)) = true then R.ok (PyData.eqv (.int i) (.int j)) else R.bad) >>= (fun k => R.ok (D.bl (!k))) = _
  have : PyData.eqv (.int i) (.int j) = decide (i = j) := by
    simp [PyData.eqv]
    rfl
  rw [this]
  rfl
@[simp] theorem ix_t0 {d : D} {ds : List D} : ixop (.tup (d :: ds)) (.int 0) = .ok d := by
  have : atI (d :: ds) 0 = some d := by simp [atI, ixN]
  show (match atI (d :: ds) 0 with | some d => R.ok d | none => .bad) = _
  rw [this]
@[simp] theorem ix_t1 {a d : D} {ds : List D} : ixop (.tup (a :: d :: ds)) (.int 1) = .ok d := by
  have : atI (a :: d :: ds) 1 = some d := by
    unfold atI ixN
    rw [if_pos (by decide), if_pos (by simp only [List.length_cons]; omega)]
    rfl
  show (match atI (a :: d :: ds) 1 with | some d => R.ok d | none => .bad) = _
  rw [this]
theorem bo_app {xs ys : List D} (h : xs.length + ys.length ≤ LIM) : binop .add (.lst .own xs) (.lst .own ys) = .ok (.lst .own (xs ++ ys)) := by
  show (if _ then _ else _) = _
  rw [if_pos h]
theorem bo_appf {xs ys : List D} (h : xs.length + ys.length ≤ LIM) : binop .add (.lst .frz xs) (.lst .own ys) = .ok (.lst .own (xs ++ ys)) := by
  show (if _ then _ else _) = _
  rw [if_pos h]
@[simp] theorem co_isnot_non : cmpop .isnot .non .non = .ok (.bl false) := rfl
end

/-! ### what is equal, what is among -/
mutual
theorem eqv_self : ∀ x : PyData, x.canLay0 = true → PyData.eqv x x = true
  | .none, _ => by simp [PyData.eqv]
  | .bool b, _ => by simp [PyData.eqv]
  | .int i, _ => by simp [PyData.eqv]
  | .str s, _ => by simp [PyData.eqv]
  | .list xs, h => by
    simp only [PyData.eqv]
    exact eqvs_self xs (by simpa [PyData.canLay0] using h)
  | .tuple xs, h => by
    simp only [PyData.eqv]
    exact eqvs_self xs (by simpa [PyData.canLay0] using h)
  | .dict _, h => by simp [PyData.canLay0] at h
theorem eqvs_self : ∀ xs : List PyData, PyData.canLayAll0 xs = true → PyData.eqvAll xs xs = true
  | [], _ => by simp [PyData.eqvAll]
  | x :: xs, h => by
    have h' : x.canLay0 = true ∧ PyData.canLayAll0 xs = true := by simpa [PyData.canLayAll0] using h
    simp only [PyData.eqvAll, eqv_self x h'.1, eqvs_self xs h'.2, Bool.and_self]
end
theorem eqD_self {a b : D} {x : PyData} (h : a.toPy = some x) (h' : b.toPy = some x) (s : SeqAt.shaped x = true) : eqD a b = .ok true := by
  unfold eqD
  rw [h, h']
  show (if (SeqAt.shaped x && SeqAt.shaped x) = true then R.ok (PyData.eqv x x) else .bad) = _
  rw [s, eqv_self x (SeqAt.canLay_of_shaped s)]
  rfl
theorem co_eqS {a b : D} {x : PyData} (h : a.toPy = some x) (h' : b.toPy = some x) (s : SeqAt.shaped x = true) : cmpop .eq a b = .ok (.bl true) := by
  have : cmpop .eq a b = (eqD a b >>= fun k => .ok (.bl k)) := by cases a <;> cases b <;> rfl
  rw [this, eqD_self h h' s]
  rfl
theorem co_neS {a b : D} {x : PyData} (h : a.toPy = some x) (h' : b.toPy = some x) (s : SeqAt.shaped x = true) : cmpop .ne a b = .ok (.bl false) := by
  have : cmpop .ne a b = (eqD a b >>= fun k => .ok (.bl (!k))) := by cases a <;> cases b <;> rfl
  rw [this, eqD_self h h' s]
  rfl
theorem pys_int : ∀ l : List Int, D.toPys (dl l) = some (l.map PyData.int)
  | [] => by simp [D.toPys, dl]
  | x :: r => by
    have := pys_int r
    unfold dl at this ⊢
    simp [D.toPys, D.toPy, this]
def pyP (p : Int × Int) : PyData := .tuple [.int p.1, .int p.2]
theorem py_dP (p : Int × Int) : (dP p).toPy = some (pyP p) := by simp [dP, D.toPy, D.toPys, pyP]
theorem pys_dP : ∀ l : List (Int × Int), D.toPys (dps l) = some (l.map pyP)
  | [] => by simp [D.toPys, dps]
  | x :: r => by
    have := pys_dP r
    unfold dps at this ⊢
    simp [D.toPys, py_dP, this]
theorem cl_int : ∀ l : List Int, PyData.canLayAll0 (l.map PyData.int) = true
  | [] => by simp [PyData.canLayAll0]
  | x :: r => by simp [PyData.canLayAll0, PyData.canLay0, cl_int r]
theorem cl_pyP : ∀ l : List (Int × Int), PyData.canLayAll0 (l.map pyP) = true
  | [] => by simp [PyData.canLayAll0]
  | x :: r => by simp [PyData.canLayAll0, PyData.canLay0, pyP, cl_pyP r]
theorem dep_int : ∀ l : List Int, PyData.depthAll (l.map PyData.int) ≤ 1
  | [] => by simp [PyData.depthAll]
  | x :: r => by
    have := dep_int r
    simp [PyData.depthAll, PyData.depth]
    omega
theorem dep_pyP : ∀ l : List (Int × Int), PyData.depthAll (l.map pyP) ≤ 2
  | [] => by simp [PyData.depthAll]
  | x :: r => by
    have := dep_pyP r
    simp [PyData.depthAll, PyData.depth, pyP]
    omega
theorem sh_ints (l : List Int) : SeqAt.shaped (.list (l.map PyData.int)) = true := by
  have := dep_int l
  simp [SeqAt.shaped, PyData.canLay0, cl_int, PyData.depth]
  omega
theorem sh_pyPs (l : List (Int × Int)) : SeqAt.shaped (.list (l.map pyP)) = true := by
  have := dep_pyP l
  simp [SeqAt.shaped, PyData.canLay0, cl_pyP, PyData.depth]
  omega
theorem sh_pyP (p : Int × Int) : SeqAt.shaped (pyP p) = true := by
  simp [SeqAt.shaped, pyP, PyData.canLay0, PyData.canLayAll0, PyData.depth, PyData.depthAll]
theorem sh_int (i : Int) : SeqAt.shaped (.int i) = true := by
  simp [SeqAt.shaped, PyData.canLay0, PyData.depth]
theorem sh_line (n : Int) (l : List (Int × Int)) : SeqAt.shaped (.tuple [.int n, .list (l.map pyP)]) = true := by
  have := dep_pyP l
  simp [SeqAt.shaped, PyData.canLay0, PyData.canLayAll0, cl_pyP, PyData.depth, PyData.depthAll]
  omega
theorem py_ints {k : LK} (l : List Int) : (D.lst k (dl l)).toPy = some (.list (l.map PyData.int)) := by simp [D.toPy, pys_int]
theorem py_dPs {k : LK} (l : List (Int × Int)) : (D.lst k (dps l)).toPy = some (.list (l.map pyP)) := by simp [D.toPy, pys_dP]
theorem py_line {k : LK} (n : Int) (l : List (Int × Int)) : (D.tup [.int n, .lst k (dps l)]).toPy = some (.tuple [.int n, .list (l.map pyP)]) := by simp [D.toPy, D.toPys, pys_dP]
@[simp] theorem co_eq_nil {k k' : LK} {l : List Int} : cmpop .eq (.lst k (dl l)) (.lst k' []) = .ok (.bl (decide (l = []))) := by
  show (eqD _ _ >>= fun k => R.ok (D.bl k)) = _
  unfold eqD
  rw [py_ints, show (D.lst k' []).toPy = some (.list []) by simp [D.toPy, D.toPys]]
  show ((if (SeqAt.shaped _ && SeqAt.shaped _) = true then R.ok (PyData.eqv _ _) else .bad) >>= fun k => R.ok (D.bl k)) = _
  rw [sh_ints, show SeqAt.shaped (.list []) = true from sh_ints []]
  cases l <;> simp [PyData.eqv, PyData.eqvAll]
@[simp] theorem in_ints {k : LK} {i : Int} {l : List Int} : cmpop .isin (.int i) (.lst k (dl l)) = .ok (.bl (decide (i ∈ l))) := by
  show (inD _ _ >>= fun k => R.ok (D.bl k)) = _
  unfold inD
  rw [pys_int, show (D.int i).toPy = some (.int i) by simp [D.toPy]]
  show ((if (SeqAt.shaped _ && SeqAt.shaped _) = true then R.ok (List.any _ _) else .bad) >>= fun k => R.ok (D.bl k)) = _
  rw [sh_ints, sh_int]
  have : ((l.map PyData.int).any fun z => PyData.eqv z (.int i)) = decide (i ∈ l) := by
    rw [Bool.eq_iff_iff]
    simp [PyData.eqv]
  simp [this]
@[simp] theorem notin_ints {k : LK} {i : Int} {l : List Int} : cmpop .notin (.int i) (.lst k (dl l)) = .ok (.bl (!decide (i ∈ l))) := by
  have h := in_ints (k := k) (i := i) (l := l)
  have e : cmpop .isin (.int i) (.lst k (dl l)) = (inD (.int i) (dl l) >>= fun k => R.ok (D.bl k)) := rfl
  have e2 : cmpop .notin (.int i) (.lst k (dl l)) = (inD (.int i) (dl l) >>= fun k => R.ok (D.bl (!k))) := rfl
  rw [e] at h
  rw [e2]
  cases hi : inD (.int i) (dl l) with
  | ok b => rw [hi] at h; simp at h; simp [h]
  | exc c => rw [hi] at h; simp at h
  | bad => rw [hi] at h; simp at h
@[simp] theorem notin_dPs {k : LK} {a b : Int} {l : List (Int × Int)} : cmpop .notin (.tup [.int a, .int b]) (.lst k (dps l)) = .ok (.bl (!decide ((a, b) ∈ l))) := by
  show (inD _ _ >>= fun k => R.ok (D.bl (!k))) = _
  unfold inD
  rw [pys_dP, show (D.tup [.int a, .int b]).toPy = some (pyP (a, b)) from py_dP (a, b)]
  show ((if (SeqAt.shaped _ && SeqAt.shaped _) = true then R.ok (List.any _ _) else .bad) >>= fun k => R.ok (D.bl (!k))) = _
  rw [sh_pyPs, sh_pyP]
  have : ((l.map pyP).any fun z => PyData.eqv z (pyP (a, b))) = decide ((a, b) ∈ l) := by
    rw [Bool.eq_iff_iff]
    simp [PyData.eqv, PyData.eqvAll, pyP]
  simp [this]
/-! ### loops -/
theorem loopF_wp {f : D → List D → O} (I : Nat → List D → Prop) (Rt : D → Prop) : ∀ (items : List D) (s : Nat) (δ : List D), I s δ →
    (∀ i d δ, items[i]? = some d → I (s + i) δ → (∃ δ', f d δ = .next δ' ∧ I (s + i + 1) δ') ∨ ∃ r, f d δ = .ret r ∧ Rt r) →
    (∃ δ', loopF f items δ = .next δ' ∧ I (s + items.length) δ') ∨ ∃ r, loopF f items δ = .ret r ∧ Rt r
  | [], s, δ, h, _ => .inl ⟨δ, rfl, h⟩
  | d :: r, s, δ, h, k => by
    rcases k 0 d δ rfl h with ⟨δ', e, h'⟩ | ⟨x, e, hx⟩
    · have ih := loopF_wp I Rt r (s + 1) δ' h' fun i d2 δ2 g hi => by
        have := k (i + 1) d2 δ2 g (by rw [show s + (i + 1) = s + 1 + i by omega]; exact hi)
        rw [show s + (i + 1) + 1 = s + 1 + i + 1 by omega] at this
        exact this
      show (∃ δ', (f d δ).thn _ = _ ∧ _) ∨ ∃ x, (f d δ).thn _ = _ ∧ _
      rw [e, thn_next]
      rw [List.length_cons, show s + (r.length + 1) = s + 1 + r.length by omega]
      exact ih
    · refine .inr ⟨x, ?_, hx⟩
      show (f d δ).thn _ = _
      rw [e]
      rfl
theorem loopF_inv {f : D → List D → O} (I : Nat → List D → Prop) {items : List D} {δ : List D} (h0 : I 0 δ) (step : ∀ i d δ, items[i]? = some d → I i δ → ∃ δ', f d δ = .next δ' ∧ I (i + 1) δ') :
    ∃ δ', loopF f items δ = .next δ' ∧ I items.length δ' := by
  rcases loopF_wp I (fun _ => False) items 0 δ h0 fun i d δ g h => .inl (by rw [Nat.zero_add] at h ⊢; exact step i d δ g h) with h | ⟨_, _, h⟩
  · rw [Nat.zero_add] at h
    exact h
  · exact h.elim
theorem loopF_inv2 {f : D → List D → O} (I : Nat → List D → Prop) (Rt : D → Prop) {items : List D} {δ : List D} (h0 : I 0 δ)
    (step : ∀ i d δ, items[i]? = some d → I i δ → (∃ δ', f d δ = .next δ' ∧ I (i + 1) δ') ∨ ∃ r, f d δ = .ret r ∧ Rt r) :
    (∃ δ', loopF f items δ = .next δ' ∧ I items.length δ') ∨ ∃ r, loopF f items δ = .ret r ∧ Rt r := by
  have := loopF_wp I Rt items 0 δ h0 fun i d δ g h => by rw [Nat.zero_add] at h ⊢; exact step i d δ g h
  rw [Nat.zero_add] at this
  exact this
/-- a comprehension over a list of known things -/
theorem compL_map {α : Type} {f : D → R (Option D)} (enc : α → D) (p : α → Bool) (k : α → D) : ∀ {l : List α}, (∀ x, x ∈ l → f (enc x) = .ok (if p x = true then some (k x) else none)) → compL f (l.map enc) = .ok ((l.filter p).map k)
  | [], _ => rfl
  | x :: r, h => by
    have ih := compL_map enc p k (l := r) fun y hy => h y (List.mem_cons_of_mem _ hy)
    show (f (enc x) >>= fun y => compL f (r.map enc) >>= fun rs => match y with | some e => R.ok (e :: rs) | none => R.ok rs) = _
    rw [h x List.mem_cons_self, ih]
    cases hp : p x <;> simp [hp]
theorem cII {f : D → R (Option D)} (p : Int → Bool) (k : Int → Int) {l : List Int} (h : ∀ x, x ∈ l → f (.int x) = .ok (if p x = true then some (.int (k x)) else none)) : compL f (dl l) = .ok (dl ((l.filter p).map k)) := by
  unfold dl
  rw [compL_map D.int p (fun x => .int (k x)) h, List.map_map]
  rfl
theorem cPI {f : D → R (Option D)} (p : Int × Int → Bool) (k : Int × Int → Int) {l : List (Int × Int)} (h : ∀ x, x ∈ l → f (dP x) = .ok (if p x = true then some (.int (k x)) else none)) : compL f (dps l) = .ok (dl ((l.filter p).map k)) := by
  unfold dl dps
  rw [compL_map dP p (fun x => .int (k x)) h, List.map_map]
  rfl
theorem cPP {f : D → R (Option D)} (p : Int × Int → Bool) (k : Int × Int → Int × Int) {l : List (Int × Int)} (h : ∀ x, x ∈ l → f (dP x) = .ok (if p x = true then some (dP (k x)) else none)) : compL f (dps l) = .ok (dps ((l.filter p).map k)) := by
  unfold dps
  rw [compL_map dP p (fun x => dP (k x)) h, List.map_map]
  rfl
theorem cIP {f : D → R (Option D)} (p : Int → Bool) (k : Int → Int × Int) {l : List Int} (h : ∀ x, x ∈ l → f (.int x) = .ok (if p x = true then some (dP (k x)) else none)) : compL f (dl l) = .ok (dps ((l.filter p).map k)) := by
  unfold dl dps
  rw [compL_map D.int p (fun x => dP (k x)) h, List.map_map]
  rfl
def dbs (l : List Bool) : List D := l.map D.bl
theorem cIB {f : D → R (Option D)} (k : Int → Bool) {l : List Int} (h : ∀ x, x ∈ l → f (.int x) = .ok (some (.bl (k x)))) : compL f (dl l) = .ok (dbs (l.map k)) := by
  unfold dl dbs
  rw [compL_map D.int (fun _ => true) (fun x => .bl (k x)) (fun x hx => by rw [h x hx]; rfl), List.map_map, List.filter_eq_self.mpr (fun _ _ => rfl)]
  rfl
theorem cII' {f : D → R (Option D)} (k : Int → Int) {l : List Int} (h : ∀ x, x ∈ l → f (.int x) = .ok (some (.int (k x)))) : compL f (dl l) = .ok (dl (l.map k)) := by
  rw [cII (fun _ => true) k (fun x hx => by rw [h x hx]; rfl), List.filter_eq_self.mpr (fun _ _ => rfl)]
theorem cPP' {f : D → R (Option D)} (k : Int × Int → Int × Int) {l : List (Int × Int)} (h : ∀ x, x ∈ l → f (dP x) = .ok (some (dP (k x)))) : compL f (dps l) = .ok (dps (l.map k)) := by
  rw [cPP (fun _ => true) k (fun x hx => by rw [h x hx]; rfl), List.filter_eq_self.mpr (fun _ _ => rfl)]
theorem cIP' {f : D → R (Option D)} (k : Int → Int × Int) {l : List Int} (h : ∀ x, x ∈ l → f (.int x) = .ok (some (dP (k x)))) : compL f (dl l) = .ok (dps (l.map k)) := by
  rw [cIP (fun _ => true) k (fun x hx => by rw [h x hx]; rfl), List.filter_eq_self.mpr (fun _ _ => rfl)]
/-- lo, lo + 1, .. -/
def rng (lo : Int) (n : Nat) : List Int := (List.range n).map fun i : Nat => lo + (i : Int)
@[simp] theorem rng_len {lo : Int} {n : Nat} : (rng lo n).length = n := by simp [rng]
theorem rng_get {lo : Int} {n i : Nat} (h : i < n) : (rng lo n)[i]? = some (lo + (i : Int)) := by simp [rng, h]
theorem rng_mem {lo x : Int} {n : Nat} : x ∈ rng lo n ↔ lo ≤ x ∧ x < lo + n := by
  unfold rng
  rw [List.mem_map]
  constructor
  · rintro ⟨i, hi, rfl⟩
    have := List.mem_range.mp hi
    omega
  · rintro ⟨h1, h2⟩
    exact ⟨(x - lo).toNat, List.mem_range.mpr (by omega), by omega⟩
theorem rangeL_eq : ∀ (n : Nat) (lo : Int), rangeL lo 1 n = dl (rng lo n)
  | 0, _ => rfl
  | n + 1, lo => by
    rw [rangeL, rangeL_eq n (lo + 1)]
    unfold dl rng
    rw [List.range_succ_eq_map, List.map_cons, List.map_cons, List.map_map, List.map_map, List.map_map]
    congr 1
    · simp
    · refine List.map_congr_left fun i _ => ?_
      simp only [Function.comp, D.int.injEq]
      rw [show ((i + 1 : Nat) : Int) = (i : Int) + 1 from rfl]
      omega
theorem okR_in {i : Int} (h : -1000000000 ≤ i) (h2 : i ≤ 1000000000) : okR i = true := by
  exact decide_eq_true (show i.natAbs < 4611686018427387904 by omega)
theorem it_r1 {j : Int} (h : -1000000000 ≤ j) (h2 : j ≤ 1000000000) : itop .range1 [.int j] = .ok (.tup (dl (rng 0 j.toNat))) := by
  show (if okR j = true then R.ok (D.tup (rangeL 0 1 j.toNat)) else .bad) = _
  rw [if_pos (okR_in h h2), rangeL_eq]
theorem it_r2 {i j : Int} (h : -1000000000 ≤ i) (h2 : i ≤ 1000000000) (h3 : -1000000000 ≤ j) (h4 : j ≤ 1000000000) : itop .range2 [.int i, .int j] = .ok (.tup (dl (rng i (j - i).toNat))) := by
  show (if (okR i && okR j) = true then R.ok (D.tup (rangeL i 1 (j - i).toNat)) else .bad) = _
  rw [if_pos (by simp [okR_in h h2, okR_in h3 h4]), rangeL_eq]
@[simp] theorem it_en {k : LK} {l : List D} : itop .enum [.lst k l] = .ok (.tup (enumL 0 l)) := rfl
theorem enum_get : ∀ (ds : List D) (s i : Nat), (enumL s ds)[i]? = (ds[i]?).map fun d => .tup [.int ((s + i : Nat) : Int), d]
  | [], _, _ => by simp [enumL]
  | d :: r, s, 0 => by simp [enumL]
  | d :: r, s, i + 1 => by
    have := enum_get r (s + 1) i
    simp only [enumL, List.getElem?_cons_succ]
    rw [this, show s + 1 + i = s + (i + 1) by omega]
theorem enum_len : ∀ (ds : List D) (s : Nat), (enumL s ds).length = ds.length
  | [], _ => rfl
  | d :: r, s => by simp [enumL, enum_len r]
/-! ### lists of whole numbers and of pairs -/
theorem dl_nil : dl [] = [] := rfl
theorem dps_nil : dps [] = [] := rfl
@[simp] theorem dl_len {l : List Int} : (dl l).length = l.length := by simp [dl]
@[simp] theorem dps_len {l : List (Int × Int)} : (dps l).length = l.length := by simp [dps]
@[simp] theorem dl_app {l m : List Int} : dl l ++ dl m = dl (l ++ m) := by simp [dl]
@[simp] theorem dps_app {l m : List (Int × Int)} : dps l ++ dps m = dps (l ++ m) := by simp [dps]
@[simp] theorem dl_one {l : List Int} {x : Int} {r : List D} : dl l ++ .int x :: r = dl (l ++ [x]) ++ r := by simp [dl]
@[simp] theorem dps_one {l : List (Int × Int)} {a b : Int} {r : List D} : dps l ++ .tup [.int a, .int b] :: r = dps (l ++ [(a, b)]) ++ r := by simp [dps, dP]
@[simp] theorem dps_one' {l : List (Int × Int)} {p : Int × Int} {r : List D} : dps l ++ dP p :: r = dps (l ++ [p]) ++ r := by simp [dps]
@[simp] theorem dl_take {l : List Int} {n : Nat} : (dl l).take n = dl (l.take n) := by simp [dl, List.map_take]
@[simp] theorem dl_drop {l : List Int} {n : Nat} : (dl l).drop n = dl (l.drop n) := by simp [dl, List.map_drop]
@[simp] theorem dps_take {l : List (Int × Int)} {n : Nat} : (dps l).take n = dps (l.take n) := by simp [dps, List.map_take]
@[simp] theorem dps_drop {l : List (Int × Int)} {n : Nat} : (dps l).drop n = dps (l.drop n) := by simp [dps, List.map_drop]
theorem dl_get {l : List Int} {i : Nat} {d : D} (h : (dl l)[i]? = some d) : ∃ x, l[i]? = some x ∧ d = .int x := by
  unfold dl at h
  rw [List.getElem?_map] at h
  obtain ⟨x, h1, h2⟩ := Option.map_eq_some_iff.mp h
  exact ⟨x, h1, h2.symm⟩
theorem dps_get {l : List (Int × Int)} {i : Nat} {d : D} (h : (dps l)[i]? = some d) : ∃ x, l[i]? = some x ∧ d = dP x := by
  unfold dps at h
  rw [List.getElem?_map] at h
  obtain ⟨x, h1, h2⟩ := Option.map_eq_some_iff.mp h
  exact ⟨x, h1, h2.symm⟩
theorem ix_map {k : LK} {α : Type} {l : List α} {enc : α → D} {i : Int} {x : α} (h0 : 0 ≤ i) (h : l[i.toNat]? = some x) : ixop (.lst k (l.map enc)) (.int i) = .ok (enc x) := by
  have hlt : i.toNat < l.length := by
    rcases Nat.lt_or_ge i.toNat l.length with z | z
    · exact z
    · rw [List.getElem?_eq_none z] at h; cases h
  show (match atI (l.map enc) i with | some d => R.ok d | none => .bad) = _
  have : atI (l.map enc) i = some (enc x) := by
    unfold atI ixN
    rw [if_pos h0, if_pos (by rw [List.length_map]; omega)]
    show (l.map enc)[i.toNat]? = _
    rw [List.getElem?_map, h]
    rfl
  rw [this]
theorem ix_dl {k : LK} {l : List Int} {i x : Int} (h0 : 0 ≤ i) (h : l[i.toNat]? = some x) : ixop (.lst k (dl l)) (.int i) = .ok (.int x) := ix_map h0 h
theorem ix_last {k : LK} {l : List Int} {x : Int} : ixop (.lst k (dl (l ++ [x]))) (.int (-1)) = .ok (.int x) := by
  show (match atI (dl (l ++ [x])) (-1) with | some d => R.ok d | none => .bad) = _
  have : atI (dl (l ++ [x])) (-1) = some (.int x) := by
    unfold atI ixN
    rw [if_neg (by decide), if_pos (by simp; omega)]
    show (dl (l ++ [x]))[(-1 + ((dl (l ++ [x])).length : Int)).toNat]? = _
    rw [dl_len, List.length_append, List.length_singleton, show (-1 + ((l.length + 1 : Nat) : Int)).toNat = l.length by omega]
    simp [dl]
  rw [this]
@[simp] theorem intsOf_dl : ∀ l : List Int, intsOf (dl l) = some l
  | [] => rfl
  | x :: r => by
    have := intsOf_dl r
    unfold dl at this ⊢
    simp [intsOf, this]
@[simp] theorem sorted_dl {k : LK} {l : List Int} : bltop .sorted [.lst k (dl l)] = .ok (.lst .own (dl (sortI l))) := by
  simp only [bltop, intsOf_dl]
  rfl
@[simp] theorem ix_l0 {k : LK} {d : D} {ds : List D} : ixop (.lst k (d :: ds)) (.int 0) = .ok d := by
  have : atI (d :: ds) 0 = some d := by simp [atI, ixN]
  show (match atI (d :: ds) 0 with | some d => R.ok d | none => .bad) = _
  rw [this]
@[simp] theorem ix_l1 {k : LK} {a d : D} {ds : List D} : ixop (.lst k (a :: d :: ds)) (.int 1) = .ok d := by
  have : atI (a :: d :: ds) 1 = some d := by
    unfold atI ixN
    rw [if_pos (by decide), if_pos (by simp only [List.length_cons]; omega)]
    rfl
  show (match atI (a :: d :: ds) 1 with | some d => R.ok d | none => .bad) = _
  rw [this]
theorem set_dl {k : LK} {l : List Int} (h : l.Nodup) (h2 : l.length < 4000) : setop (.lst k (dl l)) = .ok (.int l.length) := by
  show (match intsOf (dl l) with
    | some ns => if ns.length < 4000 then R.ok (D.int ((PyProof.Rows.firstMet (fun i => ns.getD i 0) ns.length).length : Nat)) else .bad
    | none => _) = _
  rw [intsOf_dl]
  show (if l.length < 4000 then R.ok (D.int ((PyProof.Rows.firstMet (fun i => l.getD i 0) l.length).length : Nat)) else .bad) = _
  rw [if_pos h2, firstMet_nodup l h l.length (Nat.le_refl _), List.take_length]
theorem dist_self : ∀ {l : List (List Int)}, l.Nodup → dist l = l
  | [], _ => rfl
  | x :: r, h => by
    have h2 := List.nodup_cons.mp h
    unfold dist
    rw [if_neg h2.1, dist_self h2.2]
theorem tupsOf_dps : ∀ l : List (Int × Int), tupsOf (dps l) = some (l.map fun p => [p.1, p.2])
  | [] => rfl
  | x :: r => by
    have := tupsOf_dps r
    unfold dps at this ⊢
    simp [tupsOf, dP, intsOf, this]
theorem set_dps {k : LK} {l : List (Int × Int)} (h : l.Nodup) (h2 : l.length < 8000) : setop (.lst k (dps l)) = .ok (.int l.length) := by
  have nd : (l.map fun p => [p.1, p.2]).Nodup := List.pairwise_map.mpr (List.Pairwise.imp (fun {a b} hne e => hne (by simp at e; exact Prod.ext e.1 e.2)) h)
  have e := tupsOf_dps l
  cases l with
  | nil => rfl
  | cons x r =>
    have e1 : intsOf (dps (x :: r)) = none := rfl
    show (match intsOf (dps (x :: r)) with
      | some ns => if ns.length < 4000 then R.ok (D.int ((PyProof.Rows.firstMet (fun i => ns.getD i 0) ns.length).length : Nat)) else .bad
      | none => match tupsOf (dps (x :: r)) with
        | some ks => if ks.length < 8000 then R.ok (D.int ((dist ks).length : Nat)) else .bad
        | none => .bad) = _
    rw [e1, e]
    show (if ((x :: r).map fun p => [p.1, p.2]).length < 8000 then R.ok (D.int ((dist ((x :: r).map fun p => [p.1, p.2])).length : Nat)) else .bad) = _
    rw [List.length_map, if_pos h2, dist_self nd, List.length_map]
theorem min1_dl {k : LK} {l : List Int} (h : l ≠ []) : ∃ m, m ∈ l ∧ bltop .min1 [.lst k (dl l)] = .ok (.int m) := by
  cases l with
  | nil => exact absurd rfl h
  | cons x r =>
    refine ⟨minI (x :: r), minI_mem x r, ?_⟩
    show (match intsOf (dl (x :: r)) with | some (n :: ns) => R.ok (D.int (minI (n :: ns))) | _ => .bad) = _
    rw [intsOf_dl]
theorem max1_dl {k : LK} {l : List Int} (h : l ≠ []) : ∃ m, m ∈ l ∧ bltop .max1 [.lst k (dl l)] = .ok (.int m) := by
  cases l with
  | nil => exact absurd rfl h
  | cons x r =>
    refine ⟨maxI (x :: r), maxI_mem x r, ?_⟩
    show (match intsOf (dl (x :: r)) with | some (n :: ns) => R.ok (D.int (maxI (n :: ns))) | _ => .bad) = _
    rw [intsOf_dl]
theorem sl_1 {k : LK} {l : List Int} (h : l ≠ []) : slop (.lst k (dl l)) (some 1) none = .ok (.lst .own (dl (l.drop 1))) := by
  have hp : 0 < l.length := List.length_pos_iff.mpr h
  show R.ok (D.lst .own (cutD (dl l) (some 1) none)) = _
  unfold cutD
  have e1 : HT.sIx (dl l).length 0 (some 1) = 1 := by
    simp [HT.sIx]
    omega
  have e2 : HT.sIx (dl l).length (dl l).length none = l.length := by simp [HT.sIx]
  rw [e1, e2, dl_drop, dl_take]
  congr 3
  exact List.take_of_length_le (by simp)
theorem sl_m {k : LK} {l : List Int} {i : Int} (h : l ≠ []) (hi : i = -1 ∨ i = (l.length : Int) - 1) : slop (.lst k (dl l)) none (some i) = .ok (.lst .own (dl l.dropLast)) := by
  have hp : 0 < l.length := List.length_pos_iff.mpr h
  show R.ok (D.lst .own (cutD (dl l) none (some i))) = _
  unfold cutD
  have e1 : HT.sIx (dl l).length 0 none = 0 := by simp [HT.sIx]
  have e2 : HT.sIx (dl l).length (dl l).length (some i) = l.length - 1 := by
    simp [HT.sIx]
    split <;> omega
  rw [e1, e2, List.drop_zero, Nat.sub_zero, dl_take, List.dropLast_eq_take]
@[simp] theorem rev_dl {k : LK} {l : List Int} : revop (.lst k (dl l)) = .ok (.lst .own (dl l.reverse)) := by
  show R.ok (D.lst .own (dl l).reverse) = _
  simp [dl]
@[simp] theorem int_b {b : Bool} : bltop .int [.bl b] = .ok (.int (if b then 1 else 0)) := id rfl
@[simp] theorem len_l {k : LK} {l : List D} : bltop .len [.lst k l] = .ok (.int l.length) := id rfl
@[simp] theorem list_l {k : LK} {l : List D} : bltop .list [.lst k l] = .ok (.lst .own l) := id rfl
@[simp] theorem min2_i {i j : Int} : bltop .min2 [.int i, .int j] = .ok (.int (min i j)) := by
  show R.ok (D.int (if j < i then j else i)) = _
  congr 2
  simp only [Int.min_def]
  split <;> split <;> omega
@[simp] theorem max2_i {i j : Int} : bltop .max2 [.int i, .int j] = .ok (.int (max i j)) := by
  show R.ok (D.int (if j > i then j else i)) = _
  congr 2
  simp only [Int.max_def]
  split <;> split <;> omega
@[simp] theorem all_b {k : LK} {l : List Bool} : bltop .all [.lst k (dbs l)] = .ok (.bl (l.all id)) := by
  have : ∀ l : List Bool, blsOf (dbs l) = some l := by
    intro l
    induction l with
    | nil => rfl
    | cons x r ih =>
      unfold dbs at ih ⊢
      simp [blsOf, ih]
  show (match blsOf (dbs l) with | some bs => R.ok (D.bl (bs.all id)) | none => .bad) = _
  rw [this]
end Mn

/-! MnQ: plain tools for the further forms: dicts, exceptions kept, stores by place. -/
namespace Mn
open PySem PySem.Spec L2
open PyProof.Rows hiding St

section
variable {Φ : Fn} {γ : Gn} {fu : Nat} {δ : List D}
/-- a def's answer -/
def O.val : O → R D
  | .next _ => .ok .non
  | .ret d => .ok d
  | .exc c _ => .exc c
  | .bad => .bad
theorem runS_val {fu : List D → Nat} {N n : Nat} {s : S} {ds : List D} : runS Φ γ fu N n s ds = (exec Φ γ (fu ds) s (ds ++ List.replicate (N - n) .any)).val := by
  unfold runS
  cases exec Φ γ (fu ds) s (ds ++ List.replicate (N - n) .any) <;> rfl
@[simp] theorem val_next : (O.next δ).val = .ok .non := rfl
@[simp] theorem val_ret {d : D} : (O.ret d).val = .ok d := rfl
@[simp] theorem val_exc {c : Str} : (O.exc c δ).val = .exc c := rfl
/-! ### statements -/
def O.keep (i e : Nat) : O → O
  | .exc c δ' => if c ∈ exNames then .next ((δ'.set i (.exc c)).set e .any) else .bad
  | o => o
@[simp] theorem ex_tryk {i e : Nat} {b : S} : exec Φ γ fu (.tryk i e b) δ = O.keep i e (exec Φ γ fu b δ) := by
  show (match exec Φ γ fu b δ with
    | .exc c δ' => if c ∈ exNames then O.next ((δ'.set i (.exc c)).set e .any) else O.bad
    | o => o) = _
  cases exec Φ γ fu b δ <;> rfl
@[simp] theorem keep_next {i e : Nat} : O.keep i e (.next δ) = .next δ := rfl
@[simp] theorem keep_ret {i e : Nat} {d : D} : O.keep i e (.ret d) = .ret d := rfl
theorem keep_exc {i e : Nat} {c : Str} (h : c ∈ exNames) : O.keep i e (.exc c δ) = .next ((δ.set i (.exc c)).set e .any) := if_pos h
def stO (δ1 : List D) (p : Pl) (d : D) (g : D) (k : R D) : R (List D) := match g with
  | .dct .own c ks vs => k >>= fun k => if keyOk c k && d.flat && decide (ks.length < LIM) then .ok (setP δ1 p (.dct .own c (dput ks vs k d).1 (dput ks vs k d).2)) else .bad
  | _ => ownAt δ1 p >>= fun ds => k >>= fun k => intOf k >>= fun k => match ixN ds.length k with
    | some j => .ok (setP δ1 p (.lst .own (ds.set j d)))
    | none => .bad
@[simp] theorem ex_setIx {p : Pl} {i e : M} : exec Φ γ fu (.setIx p i e) δ = .of δ (evT Φ γ e δ >>= fun y => stO y.2 p y.1 (getP y.2 p) (ev Φ γ i (D.frzs y.2))) := id rfl
@[simp] theorem stO_lst {δ1 : List D} {p : Pl} {d : D} {ds : List D} {k : R D} : stO δ1 p d (.lst .own ds) k = (ownAt δ1 p >>= fun ds => k >>= fun k => intOf k >>= fun k => match ixN ds.length k with
    | some j => .ok (setP δ1 p (.lst .own (ds.set j d)))
    | none => .bad) := rfl
@[simp] theorem stO_dct {δ1 : List D} {p : Pl} {d : D} {c : Bool} {ks vs : List D} {k : R D} : stO δ1 p d (.dct .own c ks vs) k = (k >>= fun k => if keyOk c k && d.flat && decide (ks.length < LIM) then .ok (setP δ1 p (.dct .own c (dput ks vs k d).1 (dput ks vs k d).2)) else .bad) := rfl
@[simp] theorem ex_swp2 {p : Pl} {i j e : M} : exec Φ γ fu (.swp2 p i j e) δ = .of δ (evT Φ γ e δ >>= fun y => sw1 Φ γ p i j y.1 y.2) := id rfl
@[simp] theorem sw1_ints {p : Pl} {i j : M} {u v : Int} : sw1 Φ γ p i j (.tup [.int u, .int v]) δ = (ownAt δ p >>= fun ds => ev Φ γ i (D.frzs δ) >>= fun k => intOf k >>= fun k => (match ixN ds.length k with
    | some a => sw2 Φ γ p j (.int v) (setP δ p (.lst .own (ds.set a (.int u))))
    | none => .bad)) := id rfl
@[simp] theorem sw1_strs {p : Pl} {i j : M} {u v : Str} : sw1 Φ γ p i j (.tup [.str u, .str v]) δ = (ownAt δ p >>= fun ds => ev Φ γ i (D.frzs δ) >>= fun k => intOf k >>= fun k => (match ixN ds.length k with
    | some a => sw2 Φ γ p j (.str v) (setP δ p (.lst .own (ds.set a (.str u))))
    | none => .bad)) := id rfl
theorem sw2_ok {p : Pl} {j : M} {v : D} {k : Int} {ds : List D} {b : Nat} (h1 : ownAt δ p = .ok ds) (h2 : ev Φ γ j (D.frzs δ) = .ok (.int k)) (h3 : ixN ds.length k = some b) : sw2 Φ γ p j v δ = .ok (setP δ p (.lst .own (ds.set b v))) := by
  unfold sw2
  rw [h1]
  simp only [h2, h3]
@[simp] theorem ex_popAt {p : Pl} {i : M} : exec Φ γ fu (.popAt p i) δ = .of δ (ownAt δ p >>= fun ds => ev Φ γ i (D.frzs δ) >>= fun k => intOf k >>= fun k => match ixN ds.length k with
      | some j => if okR k then .ok (setP δ p (.lst .own (ds.eraseIdx j))) else .bad
      | none => .bad) := id rfl
@[simp] theorem ex_pop {p : Pl} : exec Φ γ fu (.pop p) δ = .of δ (ownAt δ p >>= fun ds => if ds = [] then .bad else .ok (setP δ p (.lst .own ds.dropLast))) := id rfl
@[simp] theorem ex_setPop {i : Nat} {p : Pl} : exec Φ γ fu (.setPop i p) δ = .of δ (ownAt δ p >>= fun ds => match ds.getLast? with
      | some d => .ok ((setP δ p (.lst .own ds.dropLast)).set i d)
      | none => .bad) := id rfl
@[simp] theorem ex_drop {e : M} : exec Φ γ fu (.drop e) δ = .of δ (evT Φ γ e δ >>= fun y => .ok y.2) := id rfl
@[simp] theorem ex_retN : exec Φ γ fu .retN δ = .ret .non := rfl
/-- a loop by a test -/
def whl (Φ : Fn) (γ : Gn) (fu : Nat) (c : M) (b : S) : Nat → List D → O := loopW (fun δ => ev Φ γ c (D.frzs δ)) (exec Φ γ fu b)
theorem ex_whl {c : M} {b : S} : exec Φ γ fu (.whl c b) δ = whl Φ γ fu c b fu δ := rfl
theorem whl_go {c : M} {b : S} {n : Nat} {δ' : List D} (h : ev Φ γ c (D.frzs δ) = .ok (.bl true)) (h2 : exec Φ γ fu b δ = .next δ') : whl Φ γ fu c b (n + 1) δ = whl Φ γ fu c b n δ' := by
  show (match ev Φ γ c (D.frzs δ) with
    | .ok (.bl true) => (exec Φ γ fu b δ).thn (whl Φ γ fu c b n)
    | .ok (.bl false) => .next δ
    | .ok _ => .bad
    | .exc c => .exc c δ
    | .bad => .bad) = _
  rw [h]
  show (exec Φ γ fu b δ).thn _ = _
  rw [h2]
  rfl
theorem whl_ret {c : M} {b : S} {n : Nat} {d : D} (h : ev Φ γ c (D.frzs δ) = .ok (.bl true)) (h2 : exec Φ γ fu b δ = .ret d) : whl Φ γ fu c b (n + 1) δ = .ret d := by
  show (match ev Φ γ c (D.frzs δ) with
    | .ok (.bl true) => (exec Φ γ fu b δ).thn (whl Φ γ fu c b n)
    | .ok (.bl false) => .next δ
    | .ok _ => .bad
    | .exc c => .exc c δ
    | .bad => .bad) = _
  rw [h]
  show (exec Φ γ fu b δ).thn _ = _
  rw [h2]
  rfl
theorem whl_exc {c : M} {b : S} {n : Nat} {x : Str} {δ' : List D} (h : ev Φ γ c (D.frzs δ) = .ok (.bl true)) (h2 : exec Φ γ fu b δ = .exc x δ') : whl Φ γ fu c b (n + 1) δ = .exc x δ' := by
  show (match ev Φ γ c (D.frzs δ) with
    | .ok (.bl true) => (exec Φ γ fu b δ).thn (whl Φ γ fu c b n)
    | .ok (.bl false) => .next δ
    | .ok _ => .bad
    | .exc c => .exc c δ
    | .bad => .bad) = _
  rw [h]
  show (exec Φ γ fu b δ).thn _ = _
  rw [h2]
  rfl
theorem whl_end {c : M} {b : S} {n : Nat} (h : ev Φ γ c (D.frzs δ) = .ok (.bl false)) : whl Φ γ fu c b (n + 1) δ = .next δ := by
  show (match ev Φ γ c (D.frzs δ) with
    | .ok (.bl true) => (exec Φ γ fu b δ).thn (whl Φ γ fu c b n)
    | .ok (.bl false) => .next δ
    | .ok _ => .bad
    | .exc c => .exc c δ
    | .bad => .bad) = _
  rw [h]
/-! ### expressions -/
@[simp] theorem ev_chain {o1 o2 : Cop} {a b c : M} : ev Φ γ (.chain o1 o2 a b c) δ = (ev Φ γ a δ >>= fun x => ev Φ γ b δ >>= fun y => intOf x >>= fun i => intOf y >>= fun j => cmpop o1 (.int i) (.int j) >>= fun k => blOf k >>= fun q =>
    if q then (ev Φ γ c δ >>= fun z => cmpop o2 (.int j) z >>= fun k => blOf k >>= fun q => .ok (.bl q)) else .ok (.bl false)) := id rfl
@[simp] theorem ev_chain3 {o1 o2 o3 : Cop} {a b c d : M} : ev Φ γ (.chain3 o1 o2 o3 a b c d) δ = (ev Φ γ a δ >>= fun x => ev Φ γ b δ >>= fun y => intOf x >>= fun i => intOf y >>= fun j => cmpop o1 (.int i) (.int j) >>= fun k => blOf k >>= fun q =>
    if q then (ev Φ γ c δ >>= fun z => intOf z >>= fun l => cmpop o2 (.int j) (.int l) >>= fun k => blOf k >>= fun q => if q then (ev Φ γ d δ >>= fun z => cmpop o3 (.int l) z >>= fun k => blOf k >>= fun q => .ok (.bl q)) else .ok (.bl false)) else .ok (.bl false)) := id rfl
@[simp] theorem ev_isx {a : M} {x : Str} : ev Φ γ (.isx a x) δ = (ev Φ γ a δ >>= fun d => isxop x d) := id rfl
@[simp] theorem ev_dnew {c : Bool} : ev Φ γ (.dnew c) δ = .ok (.dct .own c [] []) := rfl
@[simp] theorem ev_dis1 {c : Bool} {a b : M} : ev Φ γ (.dis1 c a b) δ = (ev Φ γ a δ >>= fun x => ev Φ γ b δ >>= fun y => dis1op c x y) := id rfl
@[simp] theorem ev_dis2 {a b c d : M} : ev Φ γ (.dis2 a b c d) δ = (ev Φ γ a δ >>= fun x => ev Φ γ b δ >>= fun y => ev Φ γ c δ >>= fun z => ev Φ γ d δ >>= fun w => dis2op x y z w) := id rfl
@[simp] theorem ev_get {a b c : M} : ev Φ γ (.get a b c) δ = (ev Φ γ a δ >>= fun x => if x.isDI then (ev Φ γ b δ >>= fun y => ev Φ γ c δ >>= fun z => getop x y z) else .bad) := id rfl
@[simp] theorem ev_split {a b : M} : ev Φ γ (.split a b) δ = (ev Φ γ a δ >>= fun x => if x.isS then (ev Φ γ b δ >>= fun y => splop x y) else .bad) := id rfl
@[simp] theorem ev_join {a b : M} : ev Φ γ (.join a b) δ = (ev Φ γ a δ >>= fun x => if x.isS then (ev Φ γ b δ >>= fun y => joop x y) else .bad) := id rfl
@[simp] theorem isS_str {s : Str} : (D.str s).isS = true := id rfl
@[simp] theorem itemsOf_str {s : Str} : itemsOf (.str s) = .ok (signs s) := id rfl
@[simp] theorem ev_cnt {a b : M} : ev Φ γ (.cnt a b) δ = (ev Φ γ a δ >>= fun x => if x.isL then (ev Φ γ b δ >>= fun y => cntop x y) else .bad) := id rfl
@[simp] theorem ev_idx {a b : M} : ev Φ γ (.idx a b) δ = (ev Φ γ a δ >>= fun x => if x.isL then (ev Φ γ b δ >>= fun y => idxop x y) else .bad) := id rfl
@[simp] theorem ev_lr1 {a : M} : ev Φ γ (.lrange1 a) δ = (ev Φ γ a δ >>= fun x => lrop [x]) := id rfl
@[simp] theorem ev_lr2 {a b : M} : ev Φ γ (.lrange2 a b) δ = (ev Φ γ a δ >>= fun x => ev Φ γ b δ >>= fun y => lrop [x, y]) := id rfl
@[simp] theorem et_glob {x : Str} : evT Φ γ (.glob x) δ = evX Φ γ (.glob x) δ := rfl
@[simp] theorem et_chain {o1 o2 : Cop} {a b c : M} : evT Φ γ (.chain o1 o2 a b c) δ = evX Φ γ (.chain o1 o2 a b c) δ := rfl
@[simp] theorem et_isx {a : M} {x : Str} : evT Φ γ (.isx a x) δ = evX Φ γ (.isx a x) δ := rfl
@[simp] theorem et_dnew {c : Bool} : evT Φ γ (.dnew c) δ = evX Φ γ (.dnew c) δ := rfl
@[simp] theorem et_dis1 {c : Bool} {a b : M} : evT Φ γ (.dis1 c a b) δ = evX Φ γ (.dis1 c a b) δ := rfl
@[simp] theorem et_dis2 {a b c d : M} : evT Φ γ (.dis2 a b c d) δ = evX Φ γ (.dis2 a b c d) δ := rfl
@[simp] theorem et_get {a b c : M} : evT Φ γ (.get a b c) δ = evX Φ γ (.get a b c) δ := rfl
@[simp] theorem et_lr1 {a : M} : evT Φ γ (.lrange1 a) δ = evX Φ γ (.lrange1 a) δ := rfl
@[simp] theorem et_lr2 {a b : M} : evT Φ γ (.lrange2 a b) δ = evX Φ γ (.lrange2 a b) δ := rfl
@[simp] theorem rd_exc {c : Str} : rd (.exc c) = .ok (.exc c) := rfl
@[simp] theorem rd_dct {k : LK} {c : Bool} {ks vs : List D} : rd (.dct k c ks vs) = .ok (.dct k c ks vs) := rfl
@[simp] theorem frz_exc {c : Str} : (D.exc c).frz = .exc c := by simp [D.frz]
@[simp] theorem frz_any' : D.any.frz = .any := by simp [D.frz]
@[simp] theorem frz_dct {c : Bool} {ks vs : List D} : (D.dct .own c ks vs).frz = .dct .frz c ks vs := by simp [D.frz]
@[simp] theorem frz_dctf {c : Bool} {ks vs : List D} : (D.dct .frz c ks vs).frz = .dct .frz c ks vs := by simp [D.frz]
@[simp] theorem pur_exc {c : Str} : (D.exc c).pur = true := by simp [D.pur]
@[simp] theorem pur_dct {c : Bool} {ks vs : List D} : (D.dct .own c ks vs).pur = true := by simp [D.pur]
@[simp] theorem pur_dctf {c : Bool} {ks vs : List D} : (D.dct .frz c ks vs).pur = false := by simp [D.pur]
@[simp] theorem flat_int {i : Int} : (D.int i).flat = true := by simp [D.flat]
@[simp] theorem flat_non : D.non.flat = true := by simp [D.flat]
@[simp] theorem flat_bl {b : Bool} : (D.bl b).flat = true := by simp [D.flat]
@[simp] theorem flat_str {s : Str} : (D.str s).flat = true := by simp [D.flat]
@[simp] theorem flat_tup {l : List D} : (D.tup l).flat = D.flats l := by simp [D.flat]
@[simp] theorem flats_nil : D.flats [] = true := by simp [D.flats]
@[simp] theorem flats_cons {d : D} {l : List D} : D.flats (d :: l) = (d.flat && D.flats l) := by simp [D.flats]
@[simp] theorem flats_dl {l : List Int} : D.flats (dl l) = true := by
  rw [D.flats_eq]
  simp [dl]
@[simp] theorem isL_lst {k : LK} {l : List D} : (D.lst k l).isL = true := rfl
@[simp] theorem isDI_dct {k : LK} {c : Bool} {ks vs : List D} : (D.dct k c ks vs).isDI = c := rfl
@[simp] theorem co_is_exc {c : Str} : cmpop .is (.exc c) .non = .ok (.bl false) := rfl
@[simp] theorem co_isnot_exc {c : Str} : cmpop .isnot (.exc c) .non = .ok (.bl true) := rfl
@[simp] theorem co_is_non : cmpop .is .non .non = .ok (.bl true) := rfl
@[simp] theorem co_is_lst {k : LK} {l : List D} : cmpop .is (.lst k l) .non = .ok (.bl false) := rfl
@[simp] theorem co_isnot_lst {k : LK} {l : List D} : cmpop .isnot (.lst k l) .non = .ok (.bl true) := rfl
@[simp] theorem co_isnot_int {i : Int} : cmpop .isnot (.int i) .non = .ok (.bl true) := rfl
@[simp] theorem co_isnot_tup {l : List D} : cmpop .isnot (.tup l) .non = .ok (.bl true) := rfl
@[simp] theorem co_is_dct {k : LK} {c : Bool} {ks vs : List D} : cmpop .is (.dct k c ks vs) .non = .ok (.bl false) := rfl
/-! ### dicts -/
@[simp] theorem key_int {i : Int} : (D.int i).key = some (.num i) := by simp [D.key]
theorem keys_dl : ∀ l : List Int, D.keys (dl l) = some (l.map .num)
  | [] => by simp [D.keys, dl]
  | x :: r => by
    have := keys_dl r
    unfold dl at this ⊢
    simp [D.keys, this]
@[simp] theorem key_dl {l : List Int} : (D.tup (dl l)).key = some (.tup (l.map .num)) := by simp [D.key, keys_dl]
theorem num_inj : Function.Injective NestedKey.num := fun a b h => by injection h
theorem nums_inj {l m : List Int} : l.map NestedKey.num = m.map NestedKey.num ↔ l = m := List.map_inj_right (fun a b h => num_inj h)
theorem dep_nums : ∀ l : List Int, NestedKey.depthAll (l.map .num) = 0
  | [] => by simp [NestedKey.depthAll]
  | x :: r => by simp [NestedKey.depthAll, NestedKey.depth, dep_nums r]
@[simp] theorem keyOk_i {i : Int} {c : Bool} : keyOk c (.int i) = c := rfl
@[simp] theorem keyOk_t {l : List Int} : keyOk false (.tup (dl l)) = true := by
  simp only [keyOk]
  rw [key_dl]
  simp [NestedKey.depth, dep_nums]
theorem kc_in {k : LK} {c : Bool} {ks vs : List D} {a : D} (h : keyOk c a = true) : cmpop .isin a (.dct k c ks vs) = .ok (.bl (dfind a.key ks vs).isSome) := by
  have : cmpop .isin a (.dct k c ks vs) = if keyOk c a then .ok (.bl (dfind a.key ks vs).isSome) else .bad := by cases a <;> rfl
  rw [this, if_pos h]
theorem kc_notin {k : LK} {c : Bool} {ks vs : List D} {a : D} (h : keyOk c a = true) : cmpop .notin a (.dct k c ks vs) = .ok (.bl (!(dfind a.key ks vs).isSome)) := by
  have : cmpop .notin a (.dct k c ks vs) = if keyOk c a then .ok (.bl (!(dfind a.key ks vs).isSome)) else .bad := by cases a <;> rfl
  rw [this, if_pos h]
theorem kc_ix {k : LK} {c : Bool} {ks vs : List D} {a d : D} (h : keyOk c a = true) (f : dfind a.key ks vs = some d) : ixop (.dct k c ks vs) a = .ok d := by
  have : ixop (.dct k c ks vs) a = if keyOk c a then (match dfind a.key ks vs with
    | some d => .ok d
    | none => .bad) else .bad := by cases a <;> rfl
  rw [this, if_pos h, f]
/-- trains as keys -/
def tks (l : List (List Int)) : List D := l.map fun t => .tup (dl t)
@[simp] theorem tks_len {l : List (List Int)} : (tks l).length = l.length := by simp [tks]
theorem tks_app {l m : List (List Int)} : tks l ++ tks m = tks (l ++ m) := by simp [tks]
theorem tks_one {l : List (List Int)} {t : List Int} : tks l ++ [D.tup (dl t)] = tks (l ++ [t]) := by simp [tks]
theorem find_tks : ∀ {l : List (List Int)} {vs : List D} {t : List Int}, l.length = vs.length → (∀ (i : Nat) (d : D), l[i]? = some t → vs[i]? = some d → (∀ j, j < i → l[j]? ≠ some t) → dfind (D.tup (dl t)).key (tks l) vs = some d) ∧ (t ∉ l → dfind (D.tup (dl t)).key (tks l) vs = none)
  | [], [], t, _ => ⟨fun i d h => by simp at h, fun _ => rfl⟩
  | [], _ :: _, t, h => by simp at h
  | _ :: _, [], t, h => by simp at h
  | x :: l, v :: vs, t, h => by
    have ih := find_tks (l := l) (vs := vs) (t := t) (by simpa using h)
    have e : dfind (D.tup (dl t)).key (tks (x :: l)) (v :: vs) = if x = t then some v else dfind (D.tup (dl t)).key (tks l) vs := by
      show (if (D.tup (dl x)).key = (D.tup (dl t)).key then some v else dfind (D.tup (dl t)).key (tks l) vs) = _
      have : ((D.tup (dl x)).key = (D.tup (dl t)).key) ↔ x = t := by
        rw [key_dl, key_dl, Option.some.injEq, NestedKey.tup.injEq, nums_inj]
      simp only [this]
    rw [e]
    refine ⟨fun i d h1 h2 h3 => ?_, fun hn => ?_⟩
    · cases i with
      | zero =>
        simp at h1 h2
        rw [if_pos h1, h2]
      | succ i =>
        have hx : x ≠ t := fun z => h3 0 (by omega) (by simp [z])
        rw [if_neg hx]
        exact ih.1 i d (by simpa using h1) (by simpa using h2) fun j hj => by simpa using h3 (j + 1) (by omega)
    · rw [if_neg (fun z => hn (by rw [z]; exact List.mem_cons_self))]
      exact ih.2 fun z => hn (List.mem_cons_of_mem _ z)
theorem find_tks_nd {l : List (List Int)} {vs : List D} {t : List Int} {i : Nat} {d : D} (hl : l.length = vs.length) (nd : l.Nodup) (h1 : l[i]? = some t) (h2 : vs[i]? = some d) : dfind (D.tup (dl t)).key (tks l) vs = some d :=
  (find_tks hl).1 i d h1 h2 fun j hj e => by
    have hi := (List.getElem?_eq_some_iff.mp h1).1
    have := (List.getElem?_inj (by omega) nd).mp (e.trans h1.symm)
    omega
theorem find_tks_some {l : List (List Int)} {vs : List D} {t : List Int} (hl : l.length = vs.length) : (dfind (D.tup (dl t)).key (tks l) vs).isSome = decide (t ∈ l) := by
  by_cases h : t ∈ l
  · rw [decide_eq_true h]
    induction l generalizing vs with
    | nil => cases h
    | cons x l ih =>
      cases vs with
      | nil => simp at hl
      | cons v vs =>
        show (if (D.tup (dl x)).key = (D.tup (dl t)).key then some v else dfind (D.tup (dl t)).key (tks l) vs).isSome = true
        split
        · rfl
        · rename_i hne
          refine ih (by simpa using hl) ?_
          rcases List.mem_cons.mp h with rfl | z
          · exact absurd rfl hne
          · exact z
  · rw [decide_eq_false h, (find_tks hl).2 h]
    rfl
theorem put_tks_new {l : List (List Int)} {vs : List D} {t : List Int} {d : D} (hl : l.length = vs.length) (h : t ∉ l) : dput (tks l) vs (.tup (dl t)) d = (tks (l ++ [t]), vs ++ [d]) := by
  unfold dput
  rw [find_tks_some hl, decide_eq_false h]
  simp [tks]
/-! ### places -/
theorem ixN_in {n : Nat} {i : Int} (h0 : 0 ≤ i) (h1 : i < n) : ixN n i = some i.toNat := by
  unfold ixN
  rw [if_pos h0, if_pos (by omega)]
@[simp] theorem dl_set {l : List Int} {j : Nat} {x : Int} : (dl l).set j (.int x) = dl (l.set j x) := by simp [dl, List.map_set]
@[simp] theorem dl_erase {l : List Int} {j : Nat} : (dl l).eraseIdx j = dl (l.eraseIdx j) := by
  unfold dl
  induction l generalizing j with
  | nil => simp
  | cons x r ih =>
    cases j with
    | zero => simp
    | succ j => simp [ih]
@[simp] theorem dl_dropLast {l : List Int} : (dl l).dropLast = dl l.dropLast := by simp [dl, List.map_dropLast]
@[simp] theorem dl_rev {l : List Int} : (dl l).reverse = dl l.reverse := by simp [dl]
@[simp] theorem dl_eq_nil {l : List Int} : dl l = [] ↔ l = [] := by simp [dl]
theorem ix_any {k : LK} {l : List Int} {i : Int} (h0 : 0 ≤ i) (h1 : i < l.length) : ∃ x, x ∈ l ∧ ixop (.lst k (dl l)) (.int i) = .ok (.int x) :=
  ⟨l[i.toNat]'(by omega), List.getElem_mem _, ix_dl h0 (List.getElem?_eq_getElem _)⟩
theorem ne_nil {k k' : LK} {l : List Int} : cmpop .ne (.lst k (dl l)) (.lst k' []) = .ok (.bl (!decide (l = []))) := by
  have h := co_eq_nil (k := k) (k' := k') (l := l)
  have e : cmpop .eq (.lst k (dl l)) (.lst k' []) = (eqD (.lst k (dl l)) (.lst k' []) >>= fun k => R.ok (D.bl k)) := rfl
  have e2 : cmpop .ne (.lst k (dl l)) (.lst k' []) = (eqD (.lst k (dl l)) (.lst k' []) >>= fun k => R.ok (D.bl (!k))) := rfl
  rw [e] at h
  rw [e2]
  cases hi : eqD (.lst k (dl l)) (.lst k' []) with
  | ok b => rw [hi] at h; simp at h; simp [h]
  | exc c => rw [hi] at h; simp at h
  | bad => rw [hi] at h; simp at h
theorem bo_e39 : ∃ e : Int, 0 < e ∧ binop .pow (.int 10) (.int 39) = .ok (.int e) := by
  refine ⟨10 ^ 39, by decide, ?_⟩
  show (if okPow 10 39 = true then R.ok (D.int (10 ^ (39 : Int).toNat)) else .bad) = _
  rw [if_pos (by decide)]
  rfl
/-! ### how many are unlike -/
def setN (l : List Int) : Nat := (PyProof.Rows.firstMet (fun i => l.getD i 0) l.length).length
theorem set_dl' {k : LK} {l : List Int} (h2 : l.length < 4000) : setop (.lst k (dl l)) = .ok (.int (setN l : Nat)) := by
  show (match intsOf (dl l) with
    | some ns => if ns.length < 4000 then R.ok (D.int ((PyProof.Rows.firstMet (fun i => ns.getD i 0) ns.length).length : Nat)) else .bad
    | none => _) = _
  rw [intsOf_dl]
  show (if l.length < 4000 then R.ok (D.int ((PyProof.Rows.firstMet (fun i => l.getD i 0) l.length).length : Nat)) else .bad) = _
  rw [if_pos h2]
  rfl
theorem step_len (F : List Int) (x : Int) : ((PyProof.Rows.step_dedup F x).length = F.length ∧ x ∈ F) ∨ ((PyProof.Rows.step_dedup F x).length = F.length + 1 ∧ x ∉ F) := by
  unfold PyProof.Rows.step_dedup
  by_cases h : x ∈ F
  · exact .inl ⟨by simp [h], h⟩
  · exact .inr ⟨by simp [h], h⟩
theorem setN_lt {l : List Int} : setN l < l.length ↔ ¬ l.Nodup := by
  constructor
  · intro h nd
    unfold setN at h
    rw [firstMet_nodup l nd l.length (Nat.le_refl _), List.take_length] at h
    omega
  · intro h
    have le := PyProof.Rows.firstMet_length_le (fun i => l.getD i 0) l.length
    rcases Nat.lt_or_ge (setN l) l.length with z | z
    · exact z
    · exfalso
      apply h
      have all : ∀ d i, i + d = l.length → (PyProof.Rows.firstMet (fun i => l.getD i 0) i).length = i := by
        intro d
        induction d with
        | zero => intro i hi; have : i = l.length := by omega
                  subst this; unfold setN at z; omega
        | succ d ih =>
          intro i hi
          have h1 := ih (i + 1) (by omega)
          have l1 := PyProof.Rows.firstMet_length_le (fun i => l.getD i 0) i
          rw [PyProof.Rows.firstMet_succ] at h1
          rcases step_len (PyProof.Rows.firstMet (fun i => l.getD i 0) i) (l.getD i 0) with ⟨e, _⟩ | ⟨e, _⟩ <;> omega
      refine List.pairwise_iff_getElem.mpr fun i j hi hj hij e0 => ?_
      have e : l[i]? = l[j]? := by rw [List.getElem?_eq_getElem hi, List.getElem?_eq_getElem hj, e0]
      have hi' := all (l.length - i) i (by omega)
      have hj' := all (l.length - j) j (by omega)
      have hj1 := all (l.length - (j + 1)) (j + 1) (by omega)
      rw [PyProof.Rows.firstMet_succ] at hj1
      rcases step_len (PyProof.Rows.firstMet (fun i => l.getD i 0) j) (l.getD j 0) with ⟨e1, _⟩ | ⟨_, e2⟩
      · omega
      · apply e2
        have a := PyProof.Rows.firstMet_any (fun i => l.getD i 0) j (l.getD j 0)
        have b : (((List.range j).map fun i => l.getD i 0).any (· == l.getD j 0)) = true := by
          rw [List.any_eq_true]
          refine ⟨l.getD i 0, List.mem_map.mpr ⟨i, List.mem_range.mpr hij, rfl⟩, ?_⟩
          rw [List.getD_eq_getElem?_getD, List.getD_eq_getElem?_getD, e]
          simp
        rw [b] at a
        rw [List.any_eq_true] at a
        obtain ⟨x, hx, hxe⟩ := a
        rw [← (beq_iff_eq.mp hxe)]
        exact hx
theorem setN_le {l : List Int} : setN l ≤ l.length := PyProof.Rows.firstMet_length_le (fun i => l.getD i 0) l.length
theorem min1_iff {k : LK} {l : List Int} (h : l ≠ []) : ∃ m, bltop .min1 [.lst k (dl l)] = .ok (.int m) ∧ ∀ b, (m < b ↔ ∃ x, x ∈ l ∧ x < b) := by
  cases l with
  | nil => exact absurd rfl h
  | cons x r =>
    refine ⟨minI (x :: r), ?_, fun b => ⟨fun z => ⟨_, minI_mem x r, z⟩, fun ⟨y, hy, hb⟩ => ?_⟩⟩
    · show (match intsOf (dl (x :: r)) with | some (n :: ns) => R.ok (D.int (minI (n :: ns))) | _ => .bad) = _
      rw [intsOf_dl]
    · have := minI_le x r y hy
      omega
theorem max1_iff {k : LK} {l : List Int} (h : l ≠ []) : ∃ m, bltop .max1 [.lst k (dl l)] = .ok (.int m) ∧ ∀ b, (b ≤ m ↔ ∃ x, x ∈ l ∧ b ≤ x) := by
  cases l with
  | nil => exact absurd rfl h
  | cons x r =>
    refine ⟨maxI (x :: r), ?_, fun b => ⟨fun z => ⟨_, maxI_mem x r, z⟩, fun ⟨y, hy, hb⟩ => ?_⟩⟩
    · show (match intsOf (dl (x :: r)) with | some (n :: ns) => R.ok (D.int (maxI (n :: ns))) | _ => .bad) = _
      rw [intsOf_dl]
    · have := maxI_le x r y hy
      omega
end
end Mn

/-! MnR: plain tools: what is alike; loops that may refuse; trains that are unlike are few. -/
namespace Mn
open PySem PySem.Spec L2
open PyProof.Rows hiding St

section
/-! ### alike -/
theorem co_eq' {a b : D} {x y : PyData} (h : a.toPy = some x) (h' : b.toPy = some y) (s : SeqAt.shaped x = true) (s' : SeqAt.shaped y = true) : cmpop .eq a b = .ok (.bl (PyData.eqv x y)) := by
  have : cmpop .eq a b = (eqD a b >>= fun k => .ok (.bl k)) := by cases a <;> cases b <;> rfl
  rw [this]
  unfold eqD
  rw [h, h']
  show ((if (SeqAt.shaped x && SeqAt.shaped y) = true then R.ok (PyData.eqv x y) else .bad) >>= fun k => R.ok (D.bl k)) = _
  rw [s, s']
  rfl
theorem co_ne' {a b : D} {x y : PyData} (h : a.toPy = some x) (h' : b.toPy = some y) (s : SeqAt.shaped x = true) (s' : SeqAt.shaped y = true) : cmpop .ne a b = .ok (.bl (!PyData.eqv x y)) := by
  have : cmpop .ne a b = (eqD a b >>= fun k => .ok (.bl (!k))) := by cases a <;> cases b <;> rfl
  rw [this]
  unfold eqD
  rw [h, h']
  show ((if (SeqAt.shaped x && SeqAt.shaped y) = true then R.ok (PyData.eqv x y) else .bad) >>= fun k => R.ok (D.bl (!k))) = _
  rw [s, s']
  rfl
theorem eqv_ints : ∀ l m : List Int, PyData.eqvAll (l.map PyData.int) (m.map PyData.int) = decide (l = m)
  | [], [] => by simp [PyData.eqvAll]
  | [], _ :: _ => by simp [PyData.eqvAll]
  | _ :: _, [] => by simp [PyData.eqvAll]
  | x :: l, y :: m => by
    have := eqv_ints l m
    rw [List.map_cons, List.map_cons, PyData.eqvAll, PyData.eqv, this, Bool.eq_iff_iff]
    simp
@[simp] theorem eq_ints {k k' : LK} {l m : List Int} : cmpop .eq (.lst k (dl l)) (.lst k' (dl m)) = .ok (.bl (decide (l = m))) := by
  rw [co_eq' (py_ints l) (py_ints m) (sh_ints l) (sh_ints m)]
  simp [PyData.eqv, eqv_ints]
@[simp] theorem ne_ints {k k' : LK} {l m : List Int} : cmpop .ne (.lst k (dl l)) (.lst k' (dl m)) = .ok (.bl (!decide (l = m))) := by
  rw [co_ne' (py_ints l) (py_ints m) (sh_ints l) (sh_ints m)]
  simp [PyData.eqv, eqv_ints]
/-- texts that may be handed about -/
abbrev okS (s : Str) : Prop := PyData.strOk s = true
theorem sh_str {s : Str} (h : okS s) : SeqAt.shaped (.str s) = true := by
  simp [SeqAt.shaped, PyData.canLay0, h, PyData.depth]
theorem eq_str {a b : Str} (h : okS a) (h' : okS b) : cmpop .eq (.str a) (.str b) = .ok (.bl (decide (a = b))) := by
  rw [co_eq' (x := .str a) (y := .str b) (by simp [D.toPy]) (by simp [D.toPy]) (sh_str h) (sh_str h'), PyData.eqv]
  by_cases z : a = b <;> simp [z]
theorem ne_str {a b : Str} (h : okS a) (h' : okS b) : cmpop .ne (.str a) (.str b) = .ok (.bl (!decide (a = b))) := by
  rw [co_ne' (x := .str a) (y := .str b) (by simp [D.toPy]) (by simp [D.toPy]) (sh_str h) (sh_str h'), PyData.eqv]
  by_cases z : a = b <;> simp [z]
theorem sh_mv {s : Str} {i : Int} (h : okS s) : SeqAt.shaped (.tuple [.str s, .int i]) = true := by
  simp [SeqAt.shaped, PyData.canLay0, PyData.canLayAll0, h, PyData.depth, PyData.depthAll]
theorem eq_mv {a b : Str} {i j : Int} (h : okS a) (h' : okS b) : cmpop .eq (.tup [.str a, .int i]) (.tup [.str b, .int j]) = .ok (.bl (decide ((a, i) = (b, j)))) := by
  rw [co_eq' (x := .tuple [.str a, .int i]) (y := .tuple [.str b, .int j]) (by simp [D.toPy, D.toPys]) (by simp [D.toPy, D.toPys]) (sh_mv h) (sh_mv h')]
  simp only [PyData.eqv, PyData.eqvAll, Prod.mk.injEq]
  by_cases z : a = b <;> by_cases w : i = j <;> simp [z, w]
/-- lists of lists of whole numbers -/
def dll (k : LK) (l : List (List Int)) : List D := l.map fun t => .lst k (dl t)
@[simp] theorem dll_len {k : LK} {l : List (List Int)} : (dll k l).length = l.length := by simp [dll]
theorem dll_app {k : LK} {l m : List (List Int)} : dll k l ++ dll k m = dll k (l ++ m) := by simp [dll]
theorem dll_one {k : LK} {l : List (List Int)} {t : List Int} : dll k l ++ [D.lst k (dl t)] = dll k (l ++ [t]) := by simp [dll]
theorem dll_nil {k : LK} : dll k [] = [] := rfl
@[simp] theorem frzs_dll {l : List (List Int)} : D.frzs (dll .own l) = dll .frz l := by
  rw [D.frzs_eq]
  simp [dll]
@[simp] theorem frzs_dllf {l : List (List Int)} : D.frzs (dll .frz l) = dll .frz l := by
  rw [D.frzs_eq]
  simp [dll]
@[simp] theorem purs_dll {l : List (List Int)} : D.purs (dll .own l) = true := by
  rw [D.purs_eq]
  simp [dll]
@[simp] theorem purs_dllf {b : List Int} {r : List (List Int)} : D.purs (dll .frz (b :: r)) = false := by
  rw [D.purs_eq]
  simp [dll]
theorem dll_get {k : LK} {l : List (List Int)} {i : Nat} {d : D} (h : (dll k l)[i]? = some d) : ∃ t, l[i]? = some t ∧ d = .lst k (dl t) := by
  unfold dll at h
  rw [List.getElem?_map] at h
  obtain ⟨t, h1, h2⟩ := Option.map_eq_some_iff.mp h
  exact ⟨t, h1, h2.symm⟩
theorem dll_at {k : LK} {l : List (List Int)} {i : Nat} {t : List Int} (h : l[i]? = some t) : (dll k l)[i]? = some (.lst k (dl t)) := by
  unfold dll
  rw [List.getElem?_map, h]
  rfl
theorem pys_dll {k : LK} : ∀ l : List (List Int), D.toPys (dll k l) = some (l.map fun t => .list (t.map PyData.int))
  | [] => by simp [dll, D.toPys]
  | t :: r => by
    have := pys_dll (k := k) r
    unfold dll at this ⊢
    simp [D.toPys, D.toPy, pys_int, this]
theorem eqv_dll : ∀ l m : List (List Int), PyData.eqvAll (l.map fun t => .list (t.map PyData.int)) (m.map fun t => .list (t.map PyData.int)) = decide (l = m)
  | [], [] => by simp [PyData.eqvAll]
  | [], _ :: _ => by simp [PyData.eqvAll]
  | _ :: _, [] => by simp [PyData.eqvAll]
  | x :: l, y :: m => by
    have := eqv_dll l m
    simp [PyData.eqvAll, PyData.eqv, this, eqv_ints]
theorem cl_dll : ∀ l : List (List Int), PyData.canLayAll0 (l.map fun t => .list (t.map PyData.int)) = true
  | [] => by simp [PyData.canLayAll0]
  | t :: r => by simp [PyData.canLayAll0, PyData.canLay0, cl_int, cl_dll r]
theorem dep_dll : ∀ l : List (List Int), PyData.depthAll (l.map fun t => .list (t.map PyData.int)) ≤ 2
  | [] => by simp [PyData.depthAll]
  | t :: r => by
    have := dep_dll r
    have := dep_int t
    simp [PyData.depthAll, PyData.depth]
    omega
theorem sh_dll (l : List (List Int)) : SeqAt.shaped (.list (l.map fun t => .list (t.map PyData.int))) = true := by
  have := dep_dll l
  simp [SeqAt.shaped, PyData.canLay0, cl_dll l, PyData.depth]
  omega
theorem py_dll {k k' : LK} (l : List (List Int)) : (D.lst k (dll k' l)).toPy = some (.list (l.map fun t => .list (t.map PyData.int))) := by simp [D.toPy, pys_dll]
@[simp] theorem eq_dll {k k' q q' : LK} {l m : List (List Int)} : cmpop .eq (.lst k (dll q l)) (.lst k' (dll q' m)) = .ok (.bl (decide (l = m))) := by
  rw [co_eq' (py_dll l) (py_dll m) (sh_dll l) (sh_dll m)]
  simp [PyData.eqv, eqv_dll]
@[simp] theorem ne_dll {k k' q q' : LK} {l m : List (List Int)} : cmpop .ne (.lst k (dll q l)) (.lst k' (dll q' m)) = .ok (.bl (!decide (l = m))) := by
  rw [co_ne' (py_dll l) (py_dll m) (sh_dll l) (sh_dll m)]
  simp [PyData.eqv, eqv_dll]
@[simp] theorem eq_dll_nil {k k' q : LK} {l : List (List Int)} : cmpop .eq (.lst k (dll q l)) (.lst k' []) = .ok (.bl (decide (l = []))) := eq_dll (q' := q) (m := [])
@[simp] theorem ne_dll_nil {k k' q : LK} {l : List (List Int)} : cmpop .ne (.lst k (dll q l)) (.lst k' []) = .ok (.bl (!decide (l = []))) := ne_dll (q' := q) (m := [])
@[simp] theorem eq_nn {k k' : LK} : cmpop .eq (.lst k []) (.lst k' []) = .ok (.bl true) := eq_ints (l := []) (m := [])
@[simp] theorem ne_nn {k k' : LK} : cmpop .ne (.lst k []) (.lst k' []) = .ok (.bl false) := ne_ints (l := []) (m := [])
@[simp] theorem ix_dll0 {k q : LK} {b : List Int} {r : List (List Int)} : ixop (.lst k (dll q (b :: r))) (.int 0) = .ok (.lst q (dl b)) := ix_l0
theorem ne_sl {s : Str} {b : List Int} {k k' : LK} (h : okS s) : cmpop .ne (.tup [.str s, .lst k (dl b)]) (.tup [.str s, .lst k' (dl b)]) = .ok (.bl false) := by
  have e : ∀ a : LK, (D.tup [.str s, .lst a (dl b)]).toPy = some (.tuple [.str s, .list (b.map PyData.int)]) := fun a => by simp [D.toPy, D.toPys, pys_int]
  refine co_neS (e _) (e _) ?_
  have d2 := dep_int b
  simp [SeqAt.shaped, PyData.canLay0, PyData.canLayAll0, cl_int, PyData.depth, PyData.depthAll, h]
  omega
theorem ne_lt {n : Int} {js : List (Int × Int)} {t : List Int} {k k' k2 k3 : LK} : cmpop .ne (.tup [.tup [.int n, .lst k (dps js)], .lst k' (dl t)]) (.tup [.tup [.int n, .lst k2 (dps js)], .lst k3 (dl t)]) = .ok (.bl false) := by
  have e : ∀ a b : LK, (D.tup [.tup [.int n, .lst a (dps js)], .lst b (dl t)]).toPy = some (.tuple [.tuple [.int n, .list (js.map pyP)], .list (t.map PyData.int)]) := fun a b => by simp [D.toPy, D.toPys, pys_dP, pys_int]
  refine co_neS (e _ _) (e _ _) ?_
  have d1 := dep_pyP js
  have d2 := dep_int t
  simp [SeqAt.shaped, PyData.canLay0, PyData.canLayAll0, cl_pyP, cl_int, PyData.depth, PyData.depthAll]
  omega
theorem ix_mapAny {k : LK} {α : Type} {l : List α} {enc : α → D} {i : Int} (h0 : 0 ≤ i) (h1 : i < l.length) : ∃ x, x ∈ l ∧ ixop (.lst k (l.map enc)) (.int i) = .ok (enc x) :=
  ⟨l[i.toNat]'(by omega), List.getElem_mem _, ix_map h0 (List.getElem?_eq_getElem _)⟩
/-! ### in order -/
theorem leD_tot : PySem.W.TotalLe leD := PySem.W.sortLe_total _ false _
theorem leD_anti {a b : D} (h1 : leD a b = true) (h2 : leD b a = true) : PySem.W.keyToks (pyOf a) = PySem.W.keyToks (pyOf b) := by
  have e1 : (!PyProof.Rows.lexLt PyProof.Rows.itemOrd (PySem.W.keyToks (pyOf b)) (PySem.W.keyToks (pyOf a))) = true := h1
  have e2 : (!PyProof.Rows.lexLt PyProof.Rows.itemOrd (PySem.W.keyToks (pyOf a)) (PySem.W.keyToks (pyOf b))) = true := h2
  rw [Bool.not_eq_true'] at e1 e2
  exact PyProof.Rows.lex_total _ _ e2 e1
theorem sort_perm {l m : List D} (p : l.Perm m) (inj : ∀ a b, a ∈ l → b ∈ l → PySem.W.keyToks (pyOf a) = PySem.W.keyToks (pyOf b) → a = b) : l.mergeSort leD = m.mergeSort leD := by
  have p1 := List.mergeSort_perm l leD
  have p2 := List.mergeSort_perm m leD
  refine List.Perm.eq_of_pairwise (le := fun a b => leD a b = true) (fun a b ha hb h1 h2 => ?_) (PySem.W.sort_pairwise leD_tot l) (PySem.W.sort_pairwise leD_tot m) (p1.trans (p.trans p2.symm))
  exact inj a b (p1.mem_iff.mp ha) (p.mem_iff.mpr (p2.mem_iff.mp hb)) (leD_anti h1 h2)
theorem sort_done {l : List D} (h : l.Pairwise (fun a b => leD a b = true)) : l.mergeSort leD = l := List.mergeSort_of_pairwise h
theorem sorted_D {k : LK} {ds : List D} {ys : List PyData} (hy : D.toPys ds = some ys) (ho : ordOk ys = true) (hn : ∀ d, d ∈ ds → ∀ i, d ≠ .int i) : bltop .sorted [.lst k ds] = .ok (.lst .own (ds.mergeSort leD)) := by
  cases ds with
  | nil => simp [bltop, intsOf, sortI]
  | cons d r =>
    have hi : intsOf (d :: r) = none := by
      cases d <;> first | exact absurd rfl (hn _ List.mem_cons_self _) | rfl
    simp only [bltop, hi, hy, ho, if_true]
theorem toks_ints : ∀ {l m : List Int}, PySem.W.keyToksAll (l.map PyData.int) = PySem.W.keyToksAll (m.map PyData.int) → l = m
  | [], [], _ => rfl
  | [], _ :: _, h => by simp [PySem.W.keyToksAll] at h
  | _ :: _, [], h => by simp [PySem.W.keyToksAll] at h
  | x :: l, y :: m, h => by
    simp [PySem.W.keyToksAll, PySem.W.keyToks] at h
    rw [h.1, toks_ints h.2]
/-! ### loops that may refuse -/
theorem loopF_cons {f : D → List D → O} {d : D} {r : List D} {δ : List D} : loopF f (d :: r) δ = (f d δ).thn (loopF f r) := rfl
theorem loopF_nil {f : D → List D → O} {δ : List D} : loopF f [] δ = .next δ := rfl
theorem loopF_inv3 {f : D → List D → O} (I : Nat → List D → Prop) (Rt : D → Prop) (Xt : Str → List D → Prop) : ∀ {items : List D} {s : Nat} {δ : List D}, I s δ →
    (∀ i d δ, items[i]? = some d → I (s + i) δ → (∃ δ', f d δ = .next δ' ∧ I (s + i + 1) δ') ∨ (∃ r, f d δ = .ret r ∧ Rt r) ∨ ∃ c δ', f d δ = .exc c δ' ∧ Xt c δ') →
    (∃ δ', loopF f items δ = .next δ' ∧ I (s + items.length) δ') ∨ (∃ r, loopF f items δ = .ret r ∧ Rt r) ∨ ∃ c δ', loopF f items δ = .exc c δ' ∧ Xt c δ'
  | [], s, δ, h, _ => .inl ⟨δ, rfl, h⟩
  | d :: r, s, δ, h, k => by
    have e0 : loopF f (d :: r) δ = (f d δ).thn (loopF f r) := rfl
    rcases k 0 d δ rfl h with ⟨δ', e, h'⟩ | ⟨x, e, hx⟩ | ⟨c, δ', e, hx⟩
    · have ih := loopF_inv3 I Rt Xt (items := r) (s := s + 1) (δ := δ') h' fun i d2 δ2 g hi => by
        have := k (i + 1) d2 δ2 g (by rw [show s + (i + 1) = s + 1 + i by omega]; exact hi)
        rw [show s + (i + 1) + 1 = s + 1 + i + 1 by omega] at this
        exact this
      rw [e0, e, thn_next, show s + (d :: r).length = s + 1 + r.length by simp; omega]
      exact ih
    · rw [e0, e]
      exact .inr (.inl ⟨x, rfl, hx⟩)
    · rw [e0, e]
      exact .inr (.inr ⟨c, δ', rfl, hx⟩)
end
end Mn

namespace K74
open PySem L2 Mn
def gam : Gn := fun x => if x = "FIGURES" then .str "0123456789" else if x = "LONGEST" then .int 40 else .any
@[simp] theorem gam_FIGURES : gam "FIGURES" = D.str "0123456789" := by kernel_rfl
@[simp] theorem gam_LONGEST : gam "LONGEST" = D.int 40 := by kernel_rfl
def nn_number_in : List Str := ["word", "sign"]
def i6_number_in : S := (.ife (.and (.cmp .eq (.sub (.slot 0) (.int 0)) (.str "0")) (.cmp .ne (.slot 0) (.str "0")))
 (.cons (.rais "NoText")
 .nil)
 .nil)
def i4_number_in : S := (.ife (.cmp .notin (.slot 1) (.glob "FIGURES"))
 (.cons (.rais "NoText")
 .nil)
 .nil)
def b3_number_in : S := (.cons i4_number_in
 .nil)
def i1_number_in : S := (.ife (.or (.cmp .eq (.slot 0) (.str "")) (.cmp .gt (.blt .len (.cons (.slot 0) .nil)) (.glob "LONGEST")))
 (.cons (.rais "NoText")
 .nil)
 .nil)
def ss_number_in : S := (.cons i1_number_in
 (.cons (.fr (.nm 1) (.its (.slot 0)) b3_number_in)
 (.cons i6_number_in
 (.cons (.ret (.blt .int (.cons (.slot 0) .nil)))
 .nil))))
def tb_number_in : Tb := []
def aa_number_in : List D → R D := runS (look tb_number_in) gam (fun _ => 1000) 2 1 ss_number_in
def nn_end_in : List Str := ["word"]
def i1_end_in : S := (.ife (.and (.cmp .ne (.slice (.slot 0) (.neg (.int 1)) .nil) (.str "<")) (.cmp .ne (.slice (.slot 0) (.neg (.int 1)) .nil) (.str ">")))
 (.cons (.rais "NoText")
 .nil)
 .nil)
def ss_end_in : S := (.cons i1_end_in
 (.cons (.ret (.bin .add (.bin .mul (.int 2) (.call "number_in" (.cons (.slice (.slot 0) .nil (.neg (.int 1))) .nil))) (.blt .int (.cons (.cmp .eq (.slice (.slot 0) (.neg (.int 1)) .nil) (.str ">")) .nil))))
 .nil))
def tb_end_in : Tb := [("number_in", 1, aa_number_in)]
@[simp] theorem lk_end_in__number_in : look tb_end_in "number_in" = aa_number_in := by kernel_rfl
def aa_end_in : List D → R D := runS (look tb_end_in) gam (fun _ => 1000) 1 1 ss_end_in
def nn_read_train : List Str := ["text", "word"]
def ss_read_train : S := (.cons (.retCX (.comp (.call "end_in" (.cons (.slot 1) .nil)) (.nm 1) (.its (.split (.slot 0) (.str " "))) .yes [("word", 1)]))
 .nil)
def tb_read_train : Tb := [("end_in", 1, aa_end_in)]
@[simp] theorem lk_read_train__end_in : look tb_read_train "end_in" = aa_end_in := by kernel_rfl
def aa_read_train : List D → R D := runS (look tb_read_train) gam (fun _ => 1000) 2 1 ss_read_train
def nn_read_run : List Str := ["text", "words", "run", "place"]
def i8_read_run : S := (.ife (.cmp .notin (.sub (.slot 1) (.slot 3)) (.list (.cons (.str "on") (.cons (.str "back") .nil))))
 (.cons (.rais "NoText")
 .nil)
 .nil)
def b7_read_run : S := (.cons i8_read_run
 (.cons (.app (.nm 2) (.tup (.cons (.sub (.slot 1) (.slot 3)) (.cons (.call "end_in" (.cons (.sub (.slot 1) (.bin .add (.slot 3) (.int 1))) .nil)) .nil))))
 .nil))
def i4_read_run : S := (.ife (.cmp .eq (.bin .mod (.blt .len (.cons (.slot 1) .nil)) (.int 2)) (.int 1))
 (.cons (.rais "NoText")
 .nil)
 .nil)
def i1_read_run : S := (.ife (.cmp .eq (.slot 0) (.str "-"))
 (.cons (.ret (.list .nil))
 .nil)
 .nil)
def ss_read_run : S := (.cons i1_read_run
 (.cons (.set (.nm 1) (.split (.slot 0) (.str " ")))
 (.cons i4_read_run
 (.cons (.set (.nm 2) (.list .nil))
 (.cons (.fr (.nm 3) (.it .range3 (.cons (.int 0) (.cons (.blt .len (.cons (.slot 1) .nil)) (.cons (.int 2) .nil)))) b7_read_run)
 (.cons (.ret (.mv 2))
 .nil))))))
def tb_read_run : Tb := [("end_in", 1, aa_end_in)]
@[simp] theorem lk_read_run__end_in : look tb_read_run "end_in" = aa_end_in := by kernel_rfl
def aa_read_run : List D → R D := runS (look tb_read_run) gam (fun _ => 1000) 4 1 ss_read_run
def nn__law_cell_at : List Str := ["_law_script", "_law_k"]
def i1__law_cell_at : S := (.ife (.cmp .lt (.slot 1) (.blt .len (.cons (.slot 0) .nil)))
 (.cons (.ret (.sub (.slot 0) (.slot 1)))
 .nil)
 .nil)
def ss__law_cell_at : S := (.cons i1__law_cell_at
 (.cons (.ret (.int 0))
 .nil))
def tb__law_cell_at : Tb := []
def aa__law_cell_at : List D → R D := runS (look tb__law_cell_at) gam (fun _ => 1000) 2 2 ss__law_cell_at
def nn__law_mix : List Str := ["_law_cell", "_law_k", "_law_number_here", "_law_time"]
def b2__law_mix : S := (.cons (.set (.nm 0) (.bin .fdiv (.slot 0) (.bin .pow (.int 10) (.int 6))))
 .nil)
def i1__law_mix : S := (.ife (.cmp .ge (.slot 0) (.bin .pow (.int 10) (.int 18)))
 (.cons (.fr (.nm 3) (.it .range1 (.cons (.mv 1) .nil)) b2__law_mix)
 (.cons (.ret (.bin .mod (.slot 0) (.bin .pow (.int 10) (.int 6))))
 .nil))
 .nil)
def ss__law_mix : S := (.cons i1__law_mix
 (.cons (.set (.nm 2) (.bin .mod (.bin .mul (.bin .add (.bin .add (.bin .mod (.slot 0) (.int 1000003)) (.bin .mul (.bin .mul (.slot 1) (.slot 1)) (.int 7919))) (.slot 1)) (.int 48271)) (.int 2147483629)))
 (.cons (.set (.nm 2) (.bin .mod (.bin .mul (.slot 2) (.slot 2)) (.int 2147483587)))
 (.cons (.ret (.bin .fdiv (.bin .mod (.bin .mul (.slot 2) (.bin .add (.slot 2) (.int 2))) (.int 2147483579)) (.int 7)))
 .nil))))
def tb__law_mix : Tb := []
def aa__law_mix : List D → R D := runS (look tb__law_mix) gam (fun _ => 1000) 4 2 ss__law_mix
def nn__law_other : List Str := ["_law_end_here"]
def ss__law_other : S := (.cons (.ret (.bin .sub (.bin .add (.slot 0) (.int 1)) (.bin .mul (.bin .mod (.slot 0) (.int 2)) (.int 2))))
 .nil)
def tb__law_other : Tb := []
def aa__law_other : List D → R D := runS (look tb__law_other) gam (fun _ => 1000) 1 1 ss__law_other
def nn__law_line : List Str := ["_law_script", "_law_start", "_law_most", "_law_upto", "_law_head", "_law_many", "_law_joints", "_law_k", "_law_number_here", "_law_one", "_law_far", "_law_other_here", "_law_joint"]
def i12__law_line : S := (.ife (.cmp .notin (.slot 12) (.slot 6))
 (.cons (.ins (.nm 6) (.bin .mod (.bin .fdiv (.slot 8) (.int 64)) (.bin .add (.blt .len (.cons (.slot 6) .nil)) (.int 1))) (.mv 12))
 .nil)
 .nil)
def i8__law_line : S := (.ife (.cmp .gt (.slot 5) (.int 1))
 (.cons (.set (.nm 10) (.sub (.list (.cons (.int 0) (.cons (.bin .mod (.bin .fdiv (.slot 8) (.int 4)) (.bin .sub (.slot 5) (.int 1))) .nil))) (.bin .mod (.bin .fdiv (.slot 8) (.int 2)) (.int 2))))
 (.cons (.set (.nm 11) (.bin .add (.bin .mul (.int 2) (.bin .mod (.bin .add (.bin .add (.bin .fdiv (.slot 9) (.int 2)) (.int 1)) (.slot 10)) (.slot 5))) (.bin .mod (.slot 8) (.int 2))))
 (.cons (.set (.nm 12) (.tup (.cons (.blt .min2 (.cons (.slot 9) (.cons (.slot 11) .nil))) (.cons (.blt .max2 (.cons (.slot 9) (.cons (.slot 11) .nil))) .nil))))
 (.cons i12__law_line
 .nil))))
 .nil)
def b4__law_line : S := (.cons (.set (.nm 8) (.call "_law_mix" (.cons (.call "_law_cell_at" (.cons (.slot 0) (.cons (.bin .add (.bin .add (.slot 1) (.int 1)) (.bin .fdiv (.slot 7) (.int 8))) .nil))) (.cons (.bin .mod (.slot 7) (.int 8)) .nil))))
 (.cons (.set (.nm 9) (.bin .mod (.slot 8) (.bin .mul (.int 2) (.slot 5))))
 (.cons (.set (.nm 8) (.bin .fdiv (.slot 8) (.bin .mul (.int 2) (.slot 5))))
 (.cons i8__law_line
 .nil))))
def ss__law_line : S := (.cons (.set (.nm 4) (.call "_law_mix" (.cons (.call "_law_cell_at" (.cons (.slot 0) (.cons (.slot 1) .nil))) (.cons (.int 0) .nil))))
 (.cons (.set (.nm 5) (.bin .add (.int 1) (.bin .mod (.slot 4) (.slot 2))))
 (.cons (.set (.nm 6) (.list .nil))
 (.cons (.fr (.nm 7) (.it .range1 (.cons (.bin .mod (.bin .fdiv (.slot 4) (.int 64)) (.bin .add (.slot 3) (.int 1))) .nil)) b4__law_line)
 (.cons (.ret (.tup (.cons (.mv 5) (.cons (.mv 6) .nil))))
 .nil)))))
def tb__law_line : Tb := [("_law_mix", 2, aa__law_mix), ("_law_cell_at", 2, aa__law_cell_at)]
@[simp] theorem lk__law_line___law_mix : look tb__law_line "_law_mix" = aa__law_mix := by kernel_rfl
@[simp] theorem lk__law_line___law_cell_at : look tb__law_line "_law_cell_at" = aa__law_cell_at := by kernel_rfl
def aa__law_line : List D → R D := runS (look tb__law_line) gam (fun _ => 1000) 13 4 ss__law_line
def nn__law_joined : List Str := ["_law_line_here", "_law_end_here", "_law_a", "_law_b"]
def ss__law_joined : S := (.cons (.ret (.blt .sorted (.cons (.comp (.bin .sub (.bin .add (.slot 2) (.slot 3)) (.slot 1)) (.tup (.cons (.nm 2) (.cons (.nm 3) .nil))) (.its (.sub (.slot 0) (.int 1))) (.cmp .isin (.slot 1) (.tup (.cons (.slot 2) (.cons (.slot 3) .nil)))) [("_law_a", 2), ("_law_b", 3)]) .nil)))
 .nil)
def tb__law_joined : Tb := []
def aa__law_joined : List D → R D := runS (look tb__law_joined) gam (fun _ => 1000) 4 2 ss__law_joined
def nn__law_train : List Str := ["_law_line_here", "_law_number_here", "_law_most", "_law_train_here", "_law_k", "_law_pieces", "_law_some", "_law_end_here"]
def i5__law_train : S := (.ife (.cmp .ne (.slot 6) (.list .nil))
 (.cons (.app (.nm 3) (.sub (.slot 6) (.bin .mod (.call "_law_mix" (.cons (.slot 1) (.cons (.bin .add (.int 3) (.slot 4)) .nil))) (.blt .len (.cons (.slot 6) .nil)))))
 .nil)
 .nil)
def b2__law_train : S := (.cons (.set (.nm 5) (.comp (.bin .fdiv (.slot 7) (.int 2)) (.nm 7) (.its (.slot 3)) .yes [("_law_end_here", 7)]))
 (.cons (.setC 6 (.comp (.slot 7) (.nm 7) (.its (.call "_law_joined" (.cons (.slot 0) (.cons (.call "_law_other" (.cons (.sub (.slot 3) (.neg (.int 1))) .nil)) .nil)))) (.cmp .notin (.bin .fdiv (.slot 7) (.int 2)) (.slot 5)) [("_law_end_here", 7)]))
 (.cons i5__law_train
 .nil)))
def ss__law_train : S := (.cons (.set (.nm 3) (.list (.cons (.bin .mod (.slot 1) (.bin .mul (.int 2) (.sub (.slot 0) (.int 0)))) .nil)))
 (.cons (.fr (.nm 4) (.it .range1 (.cons (.bin .mod (.bin .fdiv (.slot 1) (.int 100)) (.slot 2)) .nil)) b2__law_train)
 (.cons (.ret (.mv 3))
 .nil)))
def tb__law_train : Tb := [("_law_mix", 2, aa__law_mix), ("_law_joined", 2, aa__law_joined), ("_law_other", 1, aa__law_other)]
@[simp] theorem lk__law_train___law_mix : look tb__law_train "_law_mix" = aa__law_mix := by kernel_rfl
@[simp] theorem lk__law_train___law_joined : look tb__law_train "_law_joined" = aa__law_joined := by kernel_rfl
@[simp] theorem lk__law_train___law_other : look tb__law_train "_law_other" = aa__law_other := by kernel_rfl
def aa__law_train : List D → R D := runS (look tb__law_train) gam (fun _ => 1000) 8 3 ss__law_train
def nn__law_moves : List Str := ["_law_line_here", "_law_train_here", "_law_pieces", "_law_found", "_law_end_here"]
def i7__law_moves : S := (.ife (.cmp .notin (.bin .fdiv (.slot 4) (.int 2)) (.slot 2))
 (.cons (.app (.nm 3) (.tup (.cons (.tup (.cons (.str "back") (.cons (.slot 4) .nil))) (.cons (.bin .add (.list (.cons (.call "_law_other" (.cons (.slot 4) .nil)) .nil)) (.slice (.slot 1) .nil (.neg (.int 1)))) .nil))))
 .nil)
 .nil)
def b6__law_moves : S := (.cons i7__law_moves
 .nil)
def i4__law_moves : S := (.ife (.cmp .notin (.bin .fdiv (.slot 4) (.int 2)) (.slot 2))
 (.cons (.app (.nm 3) (.tup (.cons (.tup (.cons (.str "on") (.cons (.slot 4) .nil))) (.cons (.bin .add (.slice (.slot 1) (.int 1) .nil) (.list (.cons (.slot 4) .nil))) .nil))))
 .nil)
 .nil)
def b3__law_moves : S := (.cons i4__law_moves
 .nil)
def ss__law_moves : S := (.cons (.setC 2 (.comp (.bin .fdiv (.slot 4) (.int 2)) (.nm 4) (.its (.slot 1)) .yes [("_law_end_here", 4)]))
 (.cons (.set (.nm 3) (.list .nil))
 (.cons (.fr (.nm 4) (.its (.call "_law_joined" (.cons (.slot 0) (.cons (.call "_law_other" (.cons (.sub (.slot 1) (.neg (.int 1))) .nil)) .nil)))) b3__law_moves)
 (.cons (.fr (.nm 4) (.its (.call "_law_joined" (.cons (.slot 0) (.cons (.sub (.slot 1) (.int 0)) .nil)))) b6__law_moves)
 (.cons (.ret (.mv 3))
 .nil)))))
def tb__law_moves : Tb := [("_law_joined", 2, aa__law_joined), ("_law_other", 1, aa__law_other)]
@[simp] theorem lk__law_moves___law_joined : look tb__law_moves "_law_joined" = aa__law_joined := by kernel_rfl
@[simp] theorem lk__law_moves___law_other : look tb__law_moves "_law_other" = aa__law_other := by kernel_rfl
def aa__law_moves : List D → R D := runS (look tb__law_moves) gam (fun _ => 1000) 5 2 ss__law_moves
def nn__law_run : List Str := ["_law_line_here", "_law_train_here", "_law_number_here", "_law_most", "_law_run_here", "_law_here", "_law_k", "_law_some", "_law_move"]
def i5__law_run : S := (.ife (.cmp .ne (.slot 7) (.list .nil))
 (.cons (.set (.tup (.cons (.nm 8) (.cons (.nm 5) .nil))) (.sub (.slot 7) (.bin .mod (.call "_law_mix" (.cons (.slot 2) (.cons (.bin .add (.int 20) (.slot 6)) .nil))) (.blt .len (.cons (.slot 7) .nil)))))
 (.cons (.app (.nm 4) (.mv 8))
 .nil))
 .nil)
def b3__law_run : S := (.cons (.set (.nm 7) (.call "_law_moves" (.cons (.slot 0) (.cons (.slot 5) .nil))))
 (.cons i5__law_run
 .nil))
def ss__law_run : S := (.cons (.set (.nm 4) (.list .nil))
 (.cons (.set (.nm 5) (.mv 1))
 (.cons (.fr (.nm 6) (.it .range1 (.cons (.bin .mod (.slot 2) (.bin .add (.slot 3) (.int 1))) .nil)) b3__law_run)
 (.cons (.ret (.mv 4))
 .nil))))
def tb__law_run : Tb := [("_law_mix", 2, aa__law_mix), ("_law_moves", 2, aa__law_moves)]
@[simp] theorem lk__law_run___law_mix : look tb__law_run "_law_mix" = aa__law_mix := by kernel_rfl
@[simp] theorem lk__law_run___law_moves : look tb__law_run "_law_moves" = aa__law_moves := by kernel_rfl
def aa__law_run : List D → R D := runS (look tb__law_run) gam (fun _ => 1000) 9 4 ss__law_run
def nn__law_end_text : List Str := ["_law_end_here"]
def ss__law_end_text : S := (.cons (.ret (.bin .add (.blt .str (.cons (.bin .fdiv (.slot 0) (.int 2)) .nil)) (.sub (.list (.cons (.str "<") (.cons (.str ">") .nil))) (.bin .mod (.slot 0) (.int 2)))))
 .nil)
def tb__law_end_text : Tb := []
def aa__law_end_text : List D → R D := runS (look tb__law_end_text) gam (fun _ => 1000) 1 1 ss__law_end_text
def nn__law_train_text : List Str := ["_law_train_here", "_law_end_here"]
def ss__law_train_text : S := (.cons (.ret (.join (.str " ") (.comp (.call "_law_end_text" (.cons (.slot 1) .nil)) (.nm 1) (.its (.slot 0)) .yes [("_law_end_here", 1)])))
 .nil)
def tb__law_train_text : Tb := [("_law_end_text", 1, aa__law_end_text)]
@[simp] theorem lk__law_train_text___law_end_text : look tb__law_train_text "_law_end_text" = aa__law_end_text := by kernel_rfl
def aa__law_train_text : List D → R D := runS (look tb__law_train_text) gam (fun _ => 1000) 2 1 ss__law_train_text
def nn__law_run_text : List Str := ["_law_run_here", "_law_word", "_law_end_here"]
def ss__law_run_text : S := (.cons (.ret (.bin .add (.join (.str " ") (.comp (.bin .add (.bin .add (.slot 1) (.str " ")) (.call "_law_end_text" (.cons (.slot 2) .nil))) (.tup (.cons (.nm 1) (.cons (.nm 2) .nil))) (.its (.slot 0)) .yes [("_law_word", 1), ("_law_end_here", 2)])) (.bin .mul (.str "-") (.blt .int (.cons (.cmp .eq (.slot 0) (.list .nil)) .nil)))))
 .nil)
def tb__law_run_text : Tb := [("_law_end_text", 1, aa__law_end_text)]
@[simp] theorem lk__law_run_text___law_end_text : look tb__law_run_text "_law_end_text" = aa__law_end_text := by kernel_rfl
def aa__law_run_text : List D → R D := runS (look tb__law_run_text) gam (fun _ => 1000) 3 1 ss__law_run_text
def nn__law_number : List Str := ["_law_word", "_law_sign"]
def i3__law_number : S := (.ife (.and (.cmp .eq (.sub (.slot 0) (.int 0)) (.str "0")) (.cmp .ne (.slot 0) (.str "0")))
 (.cons (.ret .non)
 .nil)
 .nil)
def i1__law_number : S := (.ife (.or (.cmp .eq (.slot 0) (.str "")) (.or (.cmp .gt (.blt .len (.cons (.slot 0) .nil)) (.int 40)) (.cmp .gt (.blt .len (.cons (.comp (.slot 1) (.nm 1) (.its (.slot 0)) (.cmp .notin (.slot 1) (.str "0123456789")) [("_law_sign", 1)]) .nil)) (.int 0))))
 (.cons (.ret .non)
 .nil)
 .nil)
def ss__law_number : S := (.cons i1__law_number
 (.cons i3__law_number
 (.cons (.ret (.blt .int (.cons (.slot 0) .nil)))
 .nil)))
def tb__law_number : Tb := []
def aa__law_number : List D → R D := runS (look tb__law_number) gam (fun _ => 1000) 2 1 ss__law_number
def nn__law_end : List Str := ["_law_word", "_law_number_here"]
def i2__law_end : S := (.ife (.or (.cmp .is (.slot 1) .non) (.cmp .notin (.sub (.slot 0) (.neg (.int 1))) (.str "<>")))
 (.cons (.ret .non)
 .nil)
 .nil)
def ss__law_end : S := (.cons (.set (.nm 1) (.call "_law_number" (.cons (.slice (.slot 0) .nil (.neg (.int 1))) .nil)))
 (.cons i2__law_end
 (.cons (.ret (.bin .add (.bin .mul (.int 2) (.slot 1)) (.blt .int (.cons (.cmp .eq (.sub (.slot 0) (.neg (.int 1))) (.str ">")) .nil))))
 .nil)))
def tb__law_end : Tb := [("_law_number", 1, aa__law_number)]
@[simp] theorem lk__law_end___law_number : look tb__law_end "_law_number" = aa__law_number := by kernel_rfl
def aa__law_end : List D → R D := runS (look tb__law_end) gam (fun _ => 1000) 2 1 ss__law_end
def nn__law_read_train : List Str := ["_law_text", "_law_ends", "_law_word"]
def i2__law_read_train : S := (.ife (.cmp .isin .non (.slot 1))
 (.cons (.ret .non)
 .nil)
 .nil)
def ss__law_read_train : S := (.cons (.setC 1 (.comp (.call "_law_end" (.cons (.slot 2) .nil)) (.nm 2) (.its (.split (.slot 0) (.str " "))) .yes [("_law_word", 2)]))
 (.cons i2__law_read_train
 (.cons (.ret (.mv 1))
 .nil)))
def tb__law_read_train : Tb := [("_law_end", 1, aa__law_end)]
@[simp] theorem lk__law_read_train___law_end : look tb__law_read_train "_law_end" = aa__law_end := by kernel_rfl
def aa__law_read_train : List D → R D := runS (look tb__law_read_train) gam (fun _ => 1000) 3 1 ss__law_read_train
def nn__law_read_run : List Str := ["_law_text", "_law_words", "_law_run_here", "_law_k", "_law_bad", "_law_word", "_law_end_here"]
def i8__law_read_run : S := (.ife (.or (.cmp .eq (.bin .mod (.blt .len (.cons (.slot 1) .nil)) (.int 2)) (.int 1)) (.cmp .ne (.slot 4) (.list .nil)))
 (.cons (.ret .non)
 .nil)
 .nil)
def b5__law_read_run : S := (.cons (.app (.nm 2) (.tup (.cons (.sub (.slot 1) (.slot 3)) (.cons (.call "_law_end" (.cons (.sub (.slot 1) (.bin .add (.slot 3) (.int 1))) .nil)) .nil))))
 .nil)
def i1__law_read_run : S := (.ife (.cmp .eq (.slot 0) (.str "-"))
 (.cons (.ret (.list .nil))
 .nil)
 .nil)
def ss__law_read_run : S := (.cons i1__law_read_run
 (.cons (.set (.nm 1) (.split (.slot 0) (.str " ")))
 (.cons (.set (.nm 2) (.list .nil))
 (.cons (.fr (.nm 3) (.it .range3 (.cons (.int 0) (.cons (.bin .sub (.blt .len (.cons (.slot 1) .nil)) (.int 1)) (.cons (.int 2) .nil)))) b5__law_read_run)
 (.cons (.setC 4 (.comp (.slot 5) (.tup (.cons (.nm 5) (.cons (.nm 6) .nil))) (.its (.slot 2)) (.or (.cmp .notin (.slot 5) (.list (.cons (.str "on") (.cons (.str "back") .nil)))) (.cmp .is (.slot 6) .non)) [("_law_word", 5), ("_law_end_here", 6)]))
 (.cons i8__law_read_run
 (.cons (.ret (.mv 2))
 .nil)))))))
def tb__law_read_run : Tb := [("_law_end", 1, aa__law_end)]
@[simp] theorem lk__law_read_run___law_end : look tb__law_read_run "_law_end" = aa__law_end := by kernel_rfl
def aa__law_read_run : List D → R D := runS (look tb__law_read_run) gam (fun _ => 1000) 7 1 ss__law_read_run
def nn__law_bent_row : List Str := ["_law_row", "_law_number_here", "_law_cell", "_law_odd", "_law_words", "_law_word", "_law_spot", "_law_way"]
def i11__law_bent_row : S := (.ife (.cmp .eq (.slot 7) (.int 2))
 (.cons (.ret (.join (.str " ") (.bin .add (.bin .add (.slice (.slot 4) .nil (.slot 6)) (.list (.cons (.sub (.slot 4) (.slot 6)) .nil))) (.slice (.slot 4) (.slot 6) .nil))))
 .nil)
 .nil)
def i9__law_bent_row : S := (.ife (.cmp .eq (.slot 7) (.int 1))
 (.cons (.ret (.join (.str " ") (.bin .add (.slice (.slot 4) .nil (.slot 6)) (.slice (.slot 4) (.bin .add (.slot 6) (.int 1)) .nil))))
 .nil)
 .nil)
def i7__law_bent_row : S := (.ife (.cmp .eq (.slot 7) (.int 0))
 (.cons (.ret (.join (.str " ") (.bin .add (.bin .add (.slice (.slot 4) .nil (.slot 6)) (.list (.cons (.slot 5) .nil))) (.slice (.slot 4) (.slot 6) .nil))))
 .nil)
 .nil)
def ss__law_bent_row : S := (.cons (.set (.nm 3) (.list (.cons (.str "") (.cons (.str "0") (.cons (.str "00<") (.cons (.str "-1>") (.cons (.str "+1") (.cons (.str "01>") (.cons (.str "1>") (.cons (.str "0<") (.cons (.str "<") (.cons (.str ">") (.cons (.str "on") (.cons (.str "back") (.cons (.str "On") (.cons (.str "9") (.cons (.str "10>") (.cons (.str "-") (.cons (.str "1.") (.cons (.str "x") .nil))))))))))))))))))))
 (.cons (.set (.nm 3) (.bin .add (.slot 3) (.list (.cons (.bin .add (.bin .mul (.str "1") (.int 40)) (.str "<")) (.cons (.bin .add (.bin .mul (.str "1") (.int 41)) (.str "<")) (.cons (.str "0>>") (.cons (.str "2") (.cons (.str "3>") (.cons (.str "ons") (.cons (.str "1<") (.cons (.str "on 2<") (.cons (.str "back 0>") (.cons (.str "0< 1<") .nil)))))))))))))
 (.cons (.set (.nm 4) (.split (.slot 0) (.str " ")))
 (.cons (.set (.nm 5) (.sub (.slot 3) (.bin .mod (.slot 2) (.blt .len (.cons (.slot 3) .nil)))))
 (.cons (.set (.nm 6) (.bin .mod (.slot 1) (.blt .len (.cons (.slot 4) .nil))))
 (.cons (.set (.nm 7) (.bin .mod (.bin .fdiv (.slot 1) (.int 64)) (.int 4)))
 (.cons i7__law_bent_row
 (.cons i9__law_bent_row
 (.cons i11__law_bent_row
 (.cons (.ret (.join (.str " ") (.bin .add (.bin .add (.slice (.slot 4) .nil (.slot 6)) (.list (.cons (.slot 5) .nil))) (.slice (.slot 4) (.bin .add (.slot 6) (.int 1)) .nil))))
 .nil))))))))))
def tb__law_bent_row : Tb := []
def aa__law_bent_row : List D → R D := runS (look tb__law_bent_row) gam (fun _ => 1000) 8 3 ss__law_bent_row
def nn__law_bent : List Str := ["_law_text", "_law_number_here", "_law_cell", "_law_rows", "_law_spot", "_law_to", "_law_way", "_law_some", "_law_sign", "_law_place", "_law_row"]
def i22__law_bent : S := (.ife (.cmp .eq (.slot 6) (.int 9))
 (.cons (.ret (.slice (.slot 0) .nil (.slot 9)))
 .nil)
 .nil)
def i20__law_bent : S := (.ife (.cmp .lt (.slot 6) (.int 9))
 (.cons (.ret (.bin .add (.bin .add (.slice (.slot 0) .nil (.slot 9)) (.slot 8)) (.slice (.slot 0) (.slot 9) .nil)))
 .nil)
 .nil)
def i16__law_bent : S := (.ife (.cmp .eq (.bin .mod (.slot 2) (.int 4)) (.int 3))
 (.cons (.set (.nm 7) (.str "!\"#$&'()*,/:;=?@ABCDEFGHIJKLMNOPQRSTUVWXYZ[\\]^_`abcdefghijklmnopqrstuvwxyz{|}~"))
 .nil)
 .nil)
def i12__law_bent : S := (.ife (.cmp .eq (.slot 6) (.int 6))
 (.cons (.swp2 (.nm 3) (.slot 4) (.slot 5) (.tup (.cons (.sub (.slot 3) (.slot 5)) (.cons (.sub (.slot 3) (.slot 4)) .nil))))
 (.cons (.ret (.join (.str "\n") (.slot 3)))
 .nil))
 .nil)
def i10__law_bent : S := (.ife (.cmp .eq (.slot 6) (.int 5))
 (.cons (.ret (.join (.str "\n") (.bin .add (.bin .add (.slice (.slot 3) .nil (.slot 4)) (.list (.cons (.sub (.slot 3) (.slot 5)) .nil))) (.slice (.slot 3) (.slot 4) .nil))))
 .nil)
 .nil)
def i8__law_bent : S := (.ife (.cmp .eq (.slot 6) (.int 4))
 (.cons (.ret (.join (.str "\n") (.bin .add (.slice (.slot 3) .nil (.slot 4)) (.slice (.slot 3) (.bin .add (.slot 4) (.int 1)) .nil))))
 .nil)
 .nil)
def i5__law_bent : S := (.ife (.cmp .lt (.slot 6) (.int 4))
 (.cons (.set (.nm 10) (.call "_law_bent_row" (.cons (.sub (.slot 3) (.slot 4)) (.cons (.bin .fdiv (.slot 1) (.int 512)) (.cons (.slot 2) .nil)))))
 (.cons (.ret (.join (.str "\n") (.bin .add (.bin .add (.slice (.slot 3) .nil (.slot 4)) (.list (.cons (.slot 10) .nil))) (.slice (.slot 3) (.bin .add (.slot 4) (.int 1)) .nil))))
 .nil))
 .nil)
def ss__law_bent : S := (.cons (.set (.nm 3) (.split (.slot 0) (.str "\n")))
 (.cons (.set (.nm 4) (.bin .mod (.bin .fdiv (.slot 1) (.int 16)) (.blt .len (.cons (.slot 3) .nil))))
 (.cons (.set (.nm 5) (.bin .mod (.bin .fdiv (.slot 1) (.int 512)) (.blt .len (.cons (.slot 3) .nil))))
 (.cons (.set (.nm 6) (.bin .mod (.slot 1) (.int 12)))
 (.cons i5__law_bent
 (.cons i8__law_bent
 (.cons i10__law_bent
 (.cons i12__law_bent
 (.cons (.set (.nm 7) (.str " 0123456789<>-onback\n+."))
 (.cons i16__law_bent
 (.cons (.set (.nm 8) (.sub (.slot 7) (.bin .mod (.bin .fdiv (.slot 2) (.int 4)) (.blt .len (.cons (.slot 7) .nil)))))
 (.cons (.set (.nm 9) (.bin .mod (.bin .fdiv (.slot 1) (.int 16)) (.bin .add (.blt .len (.cons (.slot 0) .nil)) (.int 1))))
 (.cons i20__law_bent
 (.cons i22__law_bent
 (.cons (.ret (.bin .add (.bin .add (.slice (.slot 0) .nil (.slot 9)) (.bin .mul (.slot 8) (.bin .sub (.slot 6) (.int 10)))) (.slice (.slot 0) (.bin .add (.slot 9) (.int 1)) .nil)))
 .nil)))))))))))))))
def tb__law_bent : Tb := [("_law_bent_row", 3, aa__law_bent_row)]
@[simp] theorem lk__law_bent___law_bent_row : look tb__law_bent "_law_bent_row" = aa__law_bent_row := by kernel_rfl
def aa__law_bent : List D → R D := runS (look tb__law_bent) gam (fun _ => 1000) 11 3 ss__law_bent
def nn__law_kind : List Str := ["_law_kept", "_law_some"]
def i5__law_kind : S := (.ife (.or (.cmp .ne (.cnt (.slot 1) (.bl true)) (.int 1)) (.not (.isx (.slot 0) "ValueError")))
 (.cons (.ret (.str "other"))
 .nil)
 .nil)
def i1__law_kind : S := (.ife (.cmp .is (.slot 0) .non)
 (.cons (.ret (.str "good"))
 .nil)
 .nil)
def ss__law_kind : S := (.cons i1__law_kind
 (.cons (.set (.nm 1) (.list (.cons (.isx (.slot 0) "NoLine") (.cons (.isx (.slot 0) "NoMove") (.cons (.isx (.slot 0) "NoPiece") (.cons (.isx (.slot 0) "NoRow") .nil))))))
 (.cons (.set (.nm 1) (.bin .add (.slot 1) (.list (.cons (.isx (.slot 0) "NoText") (.cons (.isx (.slot 0) "NoTrain") (.cons (.isx (.slot 0) "TooMany") .nil))))))
 (.cons i5__law_kind
 (.cons (.ret (.sub (.list (.cons (.str "line") (.cons (.str "move") (.cons (.str "piece") (.cons (.str "row") (.cons (.str "text") (.cons (.str "train") (.cons (.str "many") .nil)))))))) (.idx (.slot 1) (.bl true))))
 .nil)))))
def tb__law_kind : Tb := []
def aa__law_kind : List D → R D := runS (look tb__law_kind) gam (fun _ => 1000) 2 1 ss__law_kind
def nn__law_right : List Str := ["_law_text", "_law_due", "_law_of_run", "_law_kept", "_law_found", "e"]
def i10__law_right : S := (.ife (.cmp .is (.slot 1) .non)
 (.cons (.ret (.cmp .eq (.call "_law_kind" (.cons (.slot 3) .nil)) (.str "text")))
 .nil)
 .nil)
def i4__law_right : S := (.ife (.slot 2)
 (.cons (.set (.nm 4) (.call "read_run" (.cons (.slot 0) .nil)))
 .nil)
 (.cons (.set (.nm 4) (.call "read_train" (.cons (.slot 0) .nil)))
 .nil))
def t3__law_right : S := (.cons i4__law_right
 .nil)
def ss__law_right : S := (.cons (.set (.nm 3) .non)
 (.cons (.set (.nm 4) .non)
 (.cons (.tryk 3 5 t3__law_right)
 (.cons i10__law_right
 (.cons (.ret (.and (.cmp .is (.slot 3) .non) (.and (.isi (.slot 4) .list) (.cmp .eq (.slot 4) (.slot 1)))))
 .nil)))))
def tb__law_right : Tb := [("_law_kind", 1, aa__law_kind), ("read_run", 1, aa_read_run), ("read_train", 1, aa_read_train)]
@[simp] theorem lk__law_right___law_kind : look tb__law_right "_law_kind" = aa__law_kind := by kernel_rfl
@[simp] theorem lk__law_right__read_run : look tb__law_right "read_run" = aa_read_run := by kernel_rfl
@[simp] theorem lk__law_right__read_train : look tb__law_right "read_train" = aa_read_train := by kernel_rfl
def aa__law_right : List D → R D := runS (look tb__law_right) gam (fun _ => 1000) 6 3 ss__law_right
def nn_law : List Str := ["_law_script", "_law_line_here", "_law_train_here", "_law_run_here", "_law_one", "_law_other_here", "_law_k", "_law_number_here", "_law_cell", "_law_some", "_law_more", "_law_time"]
def i14_law : S := (.ife (.or (.not (.call "_law_right" (.cons (.slot 9) (.cons (.call "_law_read_train" (.cons (.slot 9) .nil)) (.cons (.bl false) .nil))))) (.not (.call "_law_right" (.cons (.slot 10) (.cons (.call "_law_read_run" (.cons (.slot 10) .nil)) (.cons (.bl true) .nil))))))
 (.cons (.ret (.bl false))
 .nil)
 .nil)
def b11_law : S := (.cons (.set (.nm 9) (.call "_law_bent" (.cons (.slot 9) (.cons (.call "_law_mix" (.cons (.slot 7) (.cons (.slot 11) .nil))) (.cons (.call "_law_mix" (.cons (.slot 8) (.cons (.slot 11) .nil))) .nil)))))
 (.cons (.set (.nm 10) (.call "_law_bent" (.cons (.slot 10) (.cons (.call "_law_mix" (.cons (.slot 8) (.cons (.slot 11) .nil))) (.cons (.call "_law_mix" (.cons (.slot 7) (.cons (.slot 11) .nil))) .nil)))))
 (.cons i14_law
 .nil)))
def b6_law : S := (.cons (.set (.nm 7) (.call "_law_cell_at" (.cons (.slot 0) (.cons (.bin .add (.int 20) (.bin .mul (.int 2) (.slot 6))) .nil))))
 (.cons (.set (.nm 8) (.call "_law_cell_at" (.cons (.slot 0) (.cons (.bin .add (.int 21) (.bin .mul (.int 2) (.slot 6))) .nil))))
 (.cons (.set (.nm 9) (.slot 4))
 (.cons (.set (.nm 10) (.slot 5))
 (.cons (.fr (.nm 11) (.it .range1 (.cons (.int 2) .nil)) b11_law)
 .nil)))))
def ss_law : S := (.cons (.set (.nm 1) (.call "_law_line" (.cons (.slot 0) (.cons (.int 0) (.cons (.int 12) (.cons (.int 20) .nil))))))
 (.cons (.set (.nm 2) (.call "_law_train" (.cons (.slot 1) (.cons (.call "_law_mix" (.cons (.call "_law_cell_at" (.cons (.slot 0) (.cons (.int 12) .nil))) (.cons (.int 0) .nil))) (.cons (.int 12) .nil)))))
 (.cons (.set (.nm 3) (.call "_law_run" (.cons (.slot 1) (.cons (.slot 2) (.cons (.call "_law_mix" (.cons (.call "_law_cell_at" (.cons (.slot 0) (.cons (.int 13) .nil))) (.cons (.int 0) .nil))) (.cons (.int 12) .nil))))))
 (.cons (.set (.nm 4) (.call "_law_train_text" (.cons (.slot 2) .nil)))
 (.cons (.set (.nm 5) (.call "_law_run_text" (.cons (.slot 3) .nil)))
 (.cons (.fr (.nm 6) (.it .range1 (.cons (.int 6) .nil)) b6_law)
 (.cons (.ret (.and (.call "_law_right" (.cons (.slot 4) (.cons (.slot 2) (.cons (.bl false) .nil)))) (.call "_law_right" (.cons (.slot 5) (.cons (.slot 3) (.cons (.bl true) .nil))))))
 .nil)))))))
def tb_law : Tb := [("_law_right", 3, aa__law_right), ("_law_read_run", 1, aa__law_read_run), ("_law_read_train", 1, aa__law_read_train), ("_law_bent", 3, aa__law_bent), ("_law_mix", 2, aa__law_mix), ("_law_cell_at", 2, aa__law_cell_at), ("_law_run_text", 1, aa__law_run_text), ("_law_train_text", 1, aa__law_train_text), ("_law_run", 4, aa__law_run), ("_law_train", 3, aa__law_train), ("_law_line", 4, aa__law_line)]
@[simp] theorem lk_law___law_right : look tb_law "_law_right" = aa__law_right := by kernel_rfl
@[simp] theorem lk_law___law_read_run : look tb_law "_law_read_run" = aa__law_read_run := by kernel_rfl
@[simp] theorem lk_law___law_read_train : look tb_law "_law_read_train" = aa__law_read_train := by kernel_rfl
@[simp] theorem lk_law___law_bent : look tb_law "_law_bent" = aa__law_bent := by kernel_rfl
@[simp] theorem lk_law___law_mix : look tb_law "_law_mix" = aa__law_mix := by kernel_rfl
@[simp] theorem lk_law___law_cell_at : look tb_law "_law_cell_at" = aa__law_cell_at := by kernel_rfl
@[simp] theorem lk_law___law_run_text : look tb_law "_law_run_text" = aa__law_run_text := by kernel_rfl
@[simp] theorem lk_law___law_train_text : look tb_law "_law_train_text" = aa__law_train_text := by kernel_rfl
@[simp] theorem lk_law___law_run : look tb_law "_law_run" = aa__law_run := by kernel_rfl
@[simp] theorem lk_law___law_train : look tb_law "_law_train" = aa__law_train := by kernel_rfl
@[simp] theorem lk_law___law_line : look tb_law "_law_line" = aa__law_line := by kernel_rfl
def aa_law : List D → R D := runS (look tb_law) gam (fun _ => 1000) 12 1 ss_law
end K74

namespace K74
open PySem PySem.Spec L2 Mn
open PyProof.Rows hiding St
open PySem.W
open PySem.Calls
def top (i : Nat) : Stmt := PySem.Challenge.pw_turnline_k74_other_texts_that_are_none.main.body.getD i (.Pass ⟨0, 0, 0, 0⟩)
abbrev st_number_in : Stmt := top 12
abbrev st_end_in : Stmt := top 13
abbrev st_read_train : Stmt := top 14
abbrev st_read_run : Stmt := top 15
abbrev st__law_cell_at : Stmt := top 17
abbrev st__law_mix : Stmt := top 18
abbrev st__law_other : Stmt := top 19
abbrev st__law_line : Stmt := top 20
abbrev st__law_joined : Stmt := top 21
abbrev st__law_train : Stmt := top 22
abbrev st__law_moves : Stmt := top 23
abbrev st__law_run : Stmt := top 24
abbrev st__law_end_text : Stmt := top 25
abbrev st__law_train_text : Stmt := top 26
abbrev st__law_run_text : Stmt := top 27
abbrev st__law_number : Stmt := top 28
abbrev st__law_end : Stmt := top 29
abbrev st__law_read_train : Stmt := top 30
abbrev st__law_read_run : Stmt := top 31
abbrev st__law_bent_row : Stmt := top 32
abbrev st__law_bent : Stmt := top 33
abbrev st__law_kind : Stmt := top 34
abbrev st__law_right : Stmt := top 35
abbrev st_law : Stmt := top 36
abbrev hx : PySem.W.Frag → Bool := exB
def tab_number_in : Tab := ⟨nn_number_in, tb_number_in.fns, ["FIGURES", "LONGEST"], (["NoText"] : List Str), false⟩
theorem sc_number_in : FnScope nn_number_in ["word"] (defScope st_number_in) := ⟨rfl, rfl, rfl, by decide +kernel, rfl, by decide +kernel, by decide +kernel⟩
theorem lk_number_in : mts tab_number_in (defScope st_number_in) ss_number_in (.inr (defBody st_number_in)) = true := by decide +kernel
def dd_number_in : He.DefD := ⟨("number_in", none), "number_in", "number_in", defArgs st_number_in, defBody st_number_in, defScope st_number_in, [], []⟩
def tab_end_in : Tab := ⟨nn_end_in, tb_end_in.fns, [], (["NoText"] : List Str), false⟩
theorem sc_end_in : FnScope nn_end_in ["word"] (defScope st_end_in) := ⟨rfl, rfl, rfl, by decide +kernel, rfl, by decide +kernel, by decide +kernel⟩
theorem lk_end_in : mts tab_end_in (defScope st_end_in) ss_end_in (.inr (defBody st_end_in)) = true := by decide +kernel
def dd_end_in : He.DefD := ⟨("end_in", none), "end_in", "end_in", defArgs st_end_in, defBody st_end_in, defScope st_end_in, [], []⟩
def tab_read_train : Tab := ⟨nn_read_train, tb_read_train.fns, [], ([] : List Str), false⟩
theorem sc_read_train : FnScope nn_read_train ["text"] (defScope st_read_train) := ⟨rfl, rfl, rfl, by decide +kernel, rfl, by decide +kernel, by decide +kernel⟩
theorem lk_read_train : mts tab_read_train (defScope st_read_train) ss_read_train (.inr (defBody st_read_train)) = true := by decide +kernel
def dd_read_train : He.DefD := ⟨("read_train", none), "read_train", "read_train", defArgs st_read_train, defBody st_read_train, defScope st_read_train, [], []⟩
def tab_read_run : Tab := ⟨nn_read_run, tb_read_run.fns, [], (["NoText"] : List Str), false⟩
theorem sc_read_run : FnScope nn_read_run ["text"] (defScope st_read_run) := ⟨rfl, rfl, rfl, by decide +kernel, rfl, by decide +kernel, by decide +kernel⟩
theorem lk_read_run : mts tab_read_run (defScope st_read_run) ss_read_run (.inr (defBody st_read_run)) = true := by decide +kernel
def dd_read_run : He.DefD := ⟨("read_run", none), "read_run", "read_run", defArgs st_read_run, defBody st_read_run, defScope st_read_run, [], []⟩
def tab__law_cell_at : Tab := ⟨nn__law_cell_at, tb__law_cell_at.fns, [], ([] : List Str), false⟩
theorem sc__law_cell_at : FnScope nn__law_cell_at ["_law_script", "_law_k"] (defScope st__law_cell_at) := ⟨rfl, rfl, rfl, by decide +kernel, rfl, by decide +kernel, by decide +kernel⟩
theorem lk__law_cell_at : mts tab__law_cell_at (defScope st__law_cell_at) ss__law_cell_at (.inr (defBody st__law_cell_at)) = true := by decide +kernel
def dd__law_cell_at : He.DefD := ⟨("_law_cell_at", none), "_law_cell_at", "_law_cell_at", defArgs st__law_cell_at, defBody st__law_cell_at, defScope st__law_cell_at, [], []⟩
def tab__law_mix : Tab := ⟨nn__law_mix, tb__law_mix.fns, [], ([] : List Str), false⟩
theorem sc__law_mix : FnScope nn__law_mix ["_law_cell", "_law_k"] (defScope st__law_mix) := ⟨rfl, rfl, rfl, by decide +kernel, rfl, by decide +kernel, by decide +kernel⟩
theorem lk__law_mix : mts tab__law_mix (defScope st__law_mix) ss__law_mix (.inr (defBody st__law_mix)) = true := by decide +kernel
def dd__law_mix : He.DefD := ⟨("_law_mix", none), "_law_mix", "_law_mix", defArgs st__law_mix, defBody st__law_mix, defScope st__law_mix, [], []⟩
def tab__law_other : Tab := ⟨nn__law_other, tb__law_other.fns, [], ([] : List Str), false⟩
theorem sc__law_other : FnScope nn__law_other ["_law_end_here"] (defScope st__law_other) := ⟨rfl, rfl, rfl, by decide +kernel, rfl, by decide +kernel, by decide +kernel⟩
theorem lk__law_other : mts tab__law_other (defScope st__law_other) ss__law_other (.inr (defBody st__law_other)) = true := by decide +kernel
def dd__law_other : He.DefD := ⟨("_law_other", none), "_law_other", "_law_other", defArgs st__law_other, defBody st__law_other, defScope st__law_other, [], []⟩
def tab__law_line : Tab := ⟨nn__law_line, tb__law_line.fns, [], ([] : List Str), false⟩
theorem sc__law_line : FnScope nn__law_line ["_law_script", "_law_start", "_law_most", "_law_upto"] (defScope st__law_line) := ⟨rfl, rfl, rfl, by decide +kernel, rfl, by decide +kernel, by decide +kernel⟩
theorem lk__law_line : mts tab__law_line (defScope st__law_line) ss__law_line (.inr (defBody st__law_line)) = true := by decide +kernel
def dd__law_line : He.DefD := ⟨("_law_line", none), "_law_line", "_law_line", defArgs st__law_line, defBody st__law_line, defScope st__law_line, [], []⟩
def tab__law_joined : Tab := ⟨nn__law_joined, tb__law_joined.fns, [], ([] : List Str), false⟩
theorem sc__law_joined : FnScope nn__law_joined ["_law_line_here", "_law_end_here"] (defScope st__law_joined) := ⟨rfl, rfl, rfl, by decide +kernel, rfl, by decide +kernel, by decide +kernel⟩
theorem lk__law_joined : mts tab__law_joined (defScope st__law_joined) ss__law_joined (.inr (defBody st__law_joined)) = true := by decide +kernel
def dd__law_joined : He.DefD := ⟨("_law_joined", none), "_law_joined", "_law_joined", defArgs st__law_joined, defBody st__law_joined, defScope st__law_joined, [], []⟩
def tab__law_train : Tab := ⟨nn__law_train, tb__law_train.fns, [], ([] : List Str), false⟩
theorem sc__law_train : FnScope nn__law_train ["_law_line_here", "_law_number_here", "_law_most"] (defScope st__law_train) := ⟨rfl, rfl, rfl, by decide +kernel, rfl, by decide +kernel, by decide +kernel⟩
theorem lk__law_train : mts tab__law_train (defScope st__law_train) ss__law_train (.inr (defBody st__law_train)) = true := by decide +kernel
def dd__law_train : He.DefD := ⟨("_law_train", none), "_law_train", "_law_train", defArgs st__law_train, defBody st__law_train, defScope st__law_train, [], []⟩
def tab__law_moves : Tab := ⟨nn__law_moves, tb__law_moves.fns, [], ([] : List Str), false⟩
theorem sc__law_moves : FnScope nn__law_moves ["_law_line_here", "_law_train_here"] (defScope st__law_moves) := ⟨rfl, rfl, rfl, by decide +kernel, rfl, by decide +kernel, by decide +kernel⟩
theorem lk__law_moves : mts tab__law_moves (defScope st__law_moves) ss__law_moves (.inr (defBody st__law_moves)) = true := by decide +kernel
def dd__law_moves : He.DefD := ⟨("_law_moves", none), "_law_moves", "_law_moves", defArgs st__law_moves, defBody st__law_moves, defScope st__law_moves, [], []⟩
def tab__law_run : Tab := ⟨nn__law_run, tb__law_run.fns, [], ([] : List Str), false⟩
theorem sc__law_run : FnScope nn__law_run ["_law_line_here", "_law_train_here", "_law_number_here", "_law_most"] (defScope st__law_run) := ⟨rfl, rfl, rfl, by decide +kernel, rfl, by decide +kernel, by decide +kernel⟩
theorem lk__law_run : mts tab__law_run (defScope st__law_run) ss__law_run (.inr (defBody st__law_run)) = true := by decide +kernel
def dd__law_run : He.DefD := ⟨("_law_run", none), "_law_run", "_law_run", defArgs st__law_run, defBody st__law_run, defScope st__law_run, [], []⟩
def tab__law_end_text : Tab := ⟨nn__law_end_text, tb__law_end_text.fns, [], ([] : List Str), false⟩
theorem sc__law_end_text : FnScope nn__law_end_text ["_law_end_here"] (defScope st__law_end_text) := ⟨rfl, rfl, rfl, by decide +kernel, rfl, by decide +kernel, by decide +kernel⟩
theorem lk__law_end_text : mts tab__law_end_text (defScope st__law_end_text) ss__law_end_text (.inr (defBody st__law_end_text)) = true := by decide +kernel
def dd__law_end_text : He.DefD := ⟨("_law_end_text", none), "_law_end_text", "_law_end_text", defArgs st__law_end_text, defBody st__law_end_text, defScope st__law_end_text, [], []⟩
def tab__law_train_text : Tab := ⟨nn__law_train_text, tb__law_train_text.fns, [], ([] : List Str), false⟩
theorem sc__law_train_text : FnScope nn__law_train_text ["_law_train_here"] (defScope st__law_train_text) := ⟨rfl, rfl, rfl, by decide +kernel, rfl, by decide +kernel, by decide +kernel⟩
theorem lk__law_train_text : mts tab__law_train_text (defScope st__law_train_text) ss__law_train_text (.inr (defBody st__law_train_text)) = true := by decide +kernel
def dd__law_train_text : He.DefD := ⟨("_law_train_text", none), "_law_train_text", "_law_train_text", defArgs st__law_train_text, defBody st__law_train_text, defScope st__law_train_text, [], []⟩
def tab__law_run_text : Tab := ⟨nn__law_run_text, tb__law_run_text.fns, [], ([] : List Str), false⟩
theorem sc__law_run_text : FnScope nn__law_run_text ["_law_run_here"] (defScope st__law_run_text) := ⟨rfl, rfl, rfl, by decide +kernel, rfl, by decide +kernel, by decide +kernel⟩
theorem lk__law_run_text : mts tab__law_run_text (defScope st__law_run_text) ss__law_run_text (.inr (defBody st__law_run_text)) = true := by decide +kernel
def dd__law_run_text : He.DefD := ⟨("_law_run_text", none), "_law_run_text", "_law_run_text", defArgs st__law_run_text, defBody st__law_run_text, defScope st__law_run_text, [], []⟩
def tab__law_number : Tab := ⟨nn__law_number, tb__law_number.fns, [], ([] : List Str), false⟩
theorem sc__law_number : FnScope nn__law_number ["_law_word"] (defScope st__law_number) := ⟨rfl, rfl, rfl, by decide +kernel, rfl, by decide +kernel, by decide +kernel⟩
theorem lk__law_number : mts tab__law_number (defScope st__law_number) ss__law_number (.inr (defBody st__law_number)) = true := by decide +kernel
def dd__law_number : He.DefD := ⟨("_law_number", none), "_law_number", "_law_number", defArgs st__law_number, defBody st__law_number, defScope st__law_number, [], []⟩
def tab__law_end : Tab := ⟨nn__law_end, tb__law_end.fns, [], ([] : List Str), false⟩
theorem sc__law_end : FnScope nn__law_end ["_law_word"] (defScope st__law_end) := ⟨rfl, rfl, rfl, by decide +kernel, rfl, by decide +kernel, by decide +kernel⟩
theorem lk__law_end : mts tab__law_end (defScope st__law_end) ss__law_end (.inr (defBody st__law_end)) = true := by decide +kernel
def dd__law_end : He.DefD := ⟨("_law_end", none), "_law_end", "_law_end", defArgs st__law_end, defBody st__law_end, defScope st__law_end, [], []⟩
def tab__law_read_train : Tab := ⟨nn__law_read_train, tb__law_read_train.fns, [], ([] : List Str), false⟩
theorem sc__law_read_train : FnScope nn__law_read_train ["_law_text"] (defScope st__law_read_train) := ⟨rfl, rfl, rfl, by decide +kernel, rfl, by decide +kernel, by decide +kernel⟩
theorem lk__law_read_train : mts tab__law_read_train (defScope st__law_read_train) ss__law_read_train (.inr (defBody st__law_read_train)) = true := by decide +kernel
def dd__law_read_train : He.DefD := ⟨("_law_read_train", none), "_law_read_train", "_law_read_train", defArgs st__law_read_train, defBody st__law_read_train, defScope st__law_read_train, [], []⟩
def tab__law_read_run : Tab := ⟨nn__law_read_run, tb__law_read_run.fns, [], ([] : List Str), false⟩
theorem sc__law_read_run : FnScope nn__law_read_run ["_law_text"] (defScope st__law_read_run) := ⟨rfl, rfl, rfl, by decide +kernel, rfl, by decide +kernel, by decide +kernel⟩
theorem lk__law_read_run : mts tab__law_read_run (defScope st__law_read_run) ss__law_read_run (.inr (defBody st__law_read_run)) = true := by decide +kernel
def dd__law_read_run : He.DefD := ⟨("_law_read_run", none), "_law_read_run", "_law_read_run", defArgs st__law_read_run, defBody st__law_read_run, defScope st__law_read_run, [], []⟩
def tab__law_bent_row : Tab := ⟨nn__law_bent_row, tb__law_bent_row.fns, [], ([] : List Str), false⟩
theorem sc__law_bent_row : FnScope nn__law_bent_row ["_law_row", "_law_number_here", "_law_cell"] (defScope st__law_bent_row) := ⟨rfl, rfl, rfl, by decide +kernel, rfl, by decide +kernel, by decide +kernel⟩
theorem lk__law_bent_row : mts tab__law_bent_row (defScope st__law_bent_row) ss__law_bent_row (.inr (defBody st__law_bent_row)) = true := by decide +kernel
def dd__law_bent_row : He.DefD := ⟨("_law_bent_row", none), "_law_bent_row", "_law_bent_row", defArgs st__law_bent_row, defBody st__law_bent_row, defScope st__law_bent_row, [], []⟩
def tab__law_bent : Tab := ⟨nn__law_bent, tb__law_bent.fns, [], ([] : List Str), false⟩
theorem sc__law_bent : FnScope nn__law_bent ["_law_text", "_law_number_here", "_law_cell"] (defScope st__law_bent) := ⟨rfl, rfl, rfl, by decide +kernel, rfl, by decide +kernel, by decide +kernel⟩
theorem lk__law_bent : mts tab__law_bent (defScope st__law_bent) ss__law_bent (.inr (defBody st__law_bent)) = true := by decide +kernel
def dd__law_bent : He.DefD := ⟨("_law_bent", none), "_law_bent", "_law_bent", defArgs st__law_bent, defBody st__law_bent, defScope st__law_bent, [], []⟩
def tab__law_kind : Tab := ⟨nn__law_kind, tb__law_kind.fns, [], ([] : List Str), true⟩
theorem sc__law_kind : FnScope nn__law_kind ["_law_kept"] (defScope st__law_kind) := ⟨rfl, rfl, rfl, by decide +kernel, rfl, by decide +kernel, by decide +kernel⟩
theorem lk__law_kind : mts tab__law_kind (defScope st__law_kind) ss__law_kind (.inr (defBody st__law_kind)) = true := by decide +kernel
def dd__law_kind : He.DefD := ⟨("_law_kind", none), "_law_kind", "_law_kind", defArgs st__law_kind, defBody st__law_kind, defScope st__law_kind, [], []⟩
def tab__law_right : Tab := ⟨nn__law_right, tb__law_right.fns, [], ([] : List Str), true⟩
theorem sc__law_right : FnScope nn__law_right ["_law_text", "_law_due", "_law_of_run"] (defScope st__law_right) := ⟨rfl, rfl, rfl, by decide +kernel, rfl, by decide +kernel, by decide +kernel⟩
theorem lk__law_right : mts tab__law_right (defScope st__law_right) ss__law_right (.inr (defBody st__law_right)) = true := by decide +kernel
def dd__law_right : He.DefD := ⟨("_law_right", none), "_law_right", "_law_right", defArgs st__law_right, defBody st__law_right, defScope st__law_right, [], []⟩
def tab_law : Tab := ⟨nn_law, tb_law.fns, [], ([] : List Str), false⟩
theorem sc_law : FnScope nn_law ["_law_script"] (defScope st_law) := ⟨rfl, rfl, rfl, by decide +kernel, rfl, by decide +kernel, by decide +kernel⟩
theorem lk_law : mts tab_law (defScope st_law) ss_law (.inr (defBody st_law)) = true := by decide +kernel
def dd_law : He.DefD := ⟨("law", none), "law", "law", defArgs st_law, defBody st_law, defScope st_law, [], []⟩
def fn : List He.DefD := dd_number_in :: dd_end_in :: dd_read_train :: dd_read_run :: dd__law_cell_at :: dd__law_mix :: dd__law_other :: dd__law_line :: dd__law_joined :: dd__law_train :: dd__law_moves :: dd__law_run :: dd__law_end_text :: dd__law_train_text :: dd__law_run_text :: dd__law_number :: dd__law_end :: dd__law_read_train :: dd__law_read_run :: dd__law_bent_row :: dd__law_bent :: dd__law_kind :: dd__law_right :: dd_law :: []
def fa : List He.Fa := (.glo "number_in") :: (.glo "end_in") :: (.glo "read_train") :: (.glo "read_run") :: (.glo "_law_cell_at") :: (.glo "_law_mix") :: (.glo "_law_other") :: (.glo "_law_line") :: (.glo "_law_joined") :: (.glo "_law_train") :: (.glo "_law_moves") :: (.glo "_law_run") :: (.glo "_law_end_text") :: (.glo "_law_train_text") :: (.glo "_law_run_text") :: (.glo "_law_number") :: (.glo "_law_end") :: (.glo "_law_read_train") :: (.glo "_law_read_run") :: (.glo "_law_bent_row") :: (.glo "_law_bent") :: (.glo "_law_kind") :: (.glo "_law_right") :: (.glo "law") :: (.free "len") :: (.free "set") :: (.free "sorted") :: (.free "list") :: (.free "tuple") :: (.free "int") :: (.free "str") :: (.free "bool") :: (.free "min") :: (.free "max") :: (.free "abs") :: (.free "all") :: (.free "isinstance") :: (.free "range") :: (.free "enumerate") :: (.free "zip") :: (.free "ValueError") :: (.str "FIGURES" "0123456789") :: (.int "LONGEST" 40) :: (.glo "NoText") :: (.exc "NoText") :: []
abbrev Rw : PySem.W.OpenRow := PySem.W.OpenLaw.row PySem.Challenge.rw_turnline_k74_other_texts_that_are_none
abbrev hk : PySem.W.Hook := hookM 5 fa fn hx
def ob (s : PySem.W.SharedT) : He.AlD := obsMG 5 fa fn hx (HandSHeadRun.getT s)
theorem ob_eq (s : PySem.W.SharedT) : ob s = hk.obs s.abs := obsMG_eq (HandSHeadRun.getT_eq s)
def loose : List PySem.Str := "TurnError" :: "NoLine" :: "NoTrain" :: "NoMove" :: "NoPiece" :: "TooMany" :: "NoText" :: "NoRow" :: "FIGURES" :: "LONGEST" :: "number_in" :: "end_in" :: "read_train" :: "read_run" :: "_law_cell_at" :: "_law_mix" :: "_law_other" :: "_law_line" :: "_law_joined" :: "_law_train" :: "_law_moves" :: "_law_run" :: "_law_end_text" :: "_law_train_text" :: "_law_run_text" :: "_law_number" :: "_law_end" :: "_law_read_train" :: "_law_read_run" :: "_law_bent_row" :: "_law_bent" :: "_law_kind" :: "_law_right" :: []
theorem run (w : World) : HandSHeadRun.RunEq Rw (PySem.W.view Rw.prog [36]) hk ob 4000 loose w := by
  intro os
  kernel_rfl
section
variable {P : Program} {w : World} {K : PySem.W.Frag} {h base : Heap} {mg : Str → Option Value}
theorem bl_ok (X : K.In h) (G : h.Ns mainGlobals mg) (c : He.SaysD fa fn K) : ∀ x, x ∈ bltNames → mg x = none := bl_of X G (all_cons (c.fact 24 rfl) (all_cons (c.fact 25 rfl) (all_cons (c.fact 26 rfl) (all_cons (c.fact 27 rfl) (all_cons (c.fact 28 rfl) (all_cons (c.fact 29 rfl) (all_cons (c.fact 30 rfl) (all_cons (c.fact 31 rfl) (all_cons (c.fact 32 rfl) (all_cons (c.fact 33 rfl) (all_cons (c.fact 34 rfl) (all_cons (c.fact 35 rfl) (all_cons (c.fact 36 rfl) (all_cons (c.fact 37 rfl) (all_cons (c.fact 38 rfl) (all_cons (c.fact 39 rfl) (all_cons (c.fact 40 rfl) (all_nil))))))))))))))))))
theorem ok_number_in (X : K.In h) (G : h.Ns mainGlobals mg) (c : He.SaysD fa fn K) (ce : hx K = true) : FnS P w K mg base 1 "number_in" 1 aa_number_in := by
  obtain ⟨fd, F⟩ := c.def_ 0 (d := dd_number_in) rfl
  exact fn_ok (ps := ["word"]) tab_number_in (look tb_number_in) gam (fun _ => 1000) ss_number_in F sc_number_in (FunD.bindsN F fun _ _ _ _ _ _ us hl => match us, hl with | [_], _ => rfl) (He.glo_ok X G (c.fact 0 rfl)) lk_number_in (calls_of (by decide) (all_nil)) (all_cons (gl_str X G (c.fact 41 rfl) rfl) (all_cons (gl_int X G (c.fact 42 rfl) rfl) (all_nil))) (bl_ok X G c) (all_cons (ex_f X G (c.fact 43 rfl) (c.fact 44 rfl) (by decide)) (all_nil)) (fun h => by cases h)
theorem ok_end_in (X : K.In h) (G : h.Ns mainGlobals mg) (c : He.SaysD fa fn K) (ce : hx K = true) : FnS P w K mg base 2 "end_in" 1 aa_end_in := by
  obtain ⟨fd, F⟩ := c.def_ 1 (d := dd_end_in) rfl
  exact fn_ok (ps := ["word"]) tab_end_in (look tb_end_in) gam (fun _ => 1000) ss_end_in F sc_end_in (FunD.bindsN F fun _ _ _ _ _ _ us hl => match us, hl with | [_], _ => rfl) (He.glo_ok X G (c.fact 1 rfl)) lk_end_in (calls_of (by decide) (all_cons (P := fun p : Str × Nat × (List D → R D) => FnS P w K mg base 1 p.1 p.2.1 p.2.2) ((ok_number_in X G c ce).mono (by decide)) (all_nil))) (all_nil) (bl_ok X G c) (all_cons (ex_f X G (c.fact 43 rfl) (c.fact 44 rfl) (by decide)) (all_nil)) (fun h => by cases h)
theorem ok_read_train (X : K.In h) (G : h.Ns mainGlobals mg) (c : He.SaysD fa fn K) (ce : hx K = true) : FnS P w K mg base 3 "read_train" 1 aa_read_train := by
  obtain ⟨fd, F⟩ := c.def_ 2 (d := dd_read_train) rfl
  exact fn_ok (ps := ["text"]) tab_read_train (look tb_read_train) gam (fun _ => 1000) ss_read_train F sc_read_train (FunD.bindsN F fun _ _ _ _ _ _ us hl => match us, hl with | [_], _ => rfl) (He.glo_ok X G (c.fact 2 rfl)) lk_read_train (calls_of (by decide) (all_cons (P := fun p : Str × Nat × (List D → R D) => FnS P w K mg base 2 p.1 p.2.1 p.2.2) ((ok_end_in X G c ce).mono (by decide)) (all_nil))) (all_nil) (bl_ok X G c) (all_nil) (fun h => by cases h)
theorem ok_read_run (X : K.In h) (G : h.Ns mainGlobals mg) (c : He.SaysD fa fn K) (ce : hx K = true) : FnS P w K mg base 3 "read_run" 1 aa_read_run := by
  obtain ⟨fd, F⟩ := c.def_ 3 (d := dd_read_run) rfl
  exact fn_ok (ps := ["text"]) tab_read_run (look tb_read_run) gam (fun _ => 1000) ss_read_run F sc_read_run (FunD.bindsN F fun _ _ _ _ _ _ us hl => match us, hl with | [_], _ => rfl) (He.glo_ok X G (c.fact 3 rfl)) lk_read_run (calls_of (by decide) (all_cons (P := fun p : Str × Nat × (List D → R D) => FnS P w K mg base 2 p.1 p.2.1 p.2.2) ((ok_end_in X G c ce).mono (by decide)) (all_nil))) (all_nil) (bl_ok X G c) (all_cons (ex_f X G (c.fact 43 rfl) (c.fact 44 rfl) (by decide)) (all_nil)) (fun h => by cases h)
theorem ok__law_cell_at (X : K.In h) (G : h.Ns mainGlobals mg) (c : He.SaysD fa fn K) (ce : hx K = true) : FnS P w K mg base 1 "_law_cell_at" 2 aa__law_cell_at := by
  obtain ⟨fd, F⟩ := c.def_ 4 (d := dd__law_cell_at) rfl
  exact fn_ok (ps := ["_law_script", "_law_k"]) tab__law_cell_at (look tb__law_cell_at) gam (fun _ => 1000) ss__law_cell_at F sc__law_cell_at (FunD.bindsN F fun _ _ _ _ _ _ us hl => match us, hl with | [_, _], _ => rfl) (He.glo_ok X G (c.fact 4 rfl)) lk__law_cell_at (calls_of (by decide) (all_nil)) (all_nil) (bl_ok X G c) (all_nil) (fun h => by cases h)
theorem ok__law_mix (X : K.In h) (G : h.Ns mainGlobals mg) (c : He.SaysD fa fn K) (ce : hx K = true) : FnS P w K mg base 1 "_law_mix" 2 aa__law_mix := by
  obtain ⟨fd, F⟩ := c.def_ 5 (d := dd__law_mix) rfl
  exact fn_ok (ps := ["_law_cell", "_law_k"]) tab__law_mix (look tb__law_mix) gam (fun _ => 1000) ss__law_mix F sc__law_mix (FunD.bindsN F fun _ _ _ _ _ _ us hl => match us, hl with | [_, _], _ => rfl) (He.glo_ok X G (c.fact 5 rfl)) lk__law_mix (calls_of (by decide) (all_nil)) (all_nil) (bl_ok X G c) (all_nil) (fun h => by cases h)
theorem ok__law_other (X : K.In h) (G : h.Ns mainGlobals mg) (c : He.SaysD fa fn K) (ce : hx K = true) : FnS P w K mg base 1 "_law_other" 1 aa__law_other := by
  obtain ⟨fd, F⟩ := c.def_ 6 (d := dd__law_other) rfl
  exact fn_ok (ps := ["_law_end_here"]) tab__law_other (look tb__law_other) gam (fun _ => 1000) ss__law_other F sc__law_other (FunD.bindsN F fun _ _ _ _ _ _ us hl => match us, hl with | [_], _ => rfl) (He.glo_ok X G (c.fact 6 rfl)) lk__law_other (calls_of (by decide) (all_nil)) (all_nil) (bl_ok X G c) (all_nil) (fun h => by cases h)
theorem ok__law_line (X : K.In h) (G : h.Ns mainGlobals mg) (c : He.SaysD fa fn K) (ce : hx K = true) : FnS P w K mg base 2 "_law_line" 4 aa__law_line := by
  obtain ⟨fd, F⟩ := c.def_ 7 (d := dd__law_line) rfl
  exact fn_ok (ps := ["_law_script", "_law_start", "_law_most", "_law_upto"]) tab__law_line (look tb__law_line) gam (fun _ => 1000) ss__law_line F sc__law_line (FunD.bindsN F fun _ _ _ _ _ _ us hl => match us, hl with | [_, _, _, _], _ => rfl) (He.glo_ok X G (c.fact 7 rfl)) lk__law_line (calls_of (by decide) (all_cons (P := fun p : Str × Nat × (List D → R D) => FnS P w K mg base 1 p.1 p.2.1 p.2.2) ((ok__law_mix X G c ce).mono (by decide)) (all_cons (P := fun p : Str × Nat × (List D → R D) => FnS P w K mg base 1 p.1 p.2.1 p.2.2) ((ok__law_cell_at X G c ce).mono (by decide)) (all_nil)))) (all_nil) (bl_ok X G c) (all_nil) (fun h => by cases h)
theorem ok__law_joined (X : K.In h) (G : h.Ns mainGlobals mg) (c : He.SaysD fa fn K) (ce : hx K = true) : FnS P w K mg base 1 "_law_joined" 2 aa__law_joined := by
  obtain ⟨fd, F⟩ := c.def_ 8 (d := dd__law_joined) rfl
  exact fn_ok (ps := ["_law_line_here", "_law_end_here"]) tab__law_joined (look tb__law_joined) gam (fun _ => 1000) ss__law_joined F sc__law_joined (FunD.bindsN F fun _ _ _ _ _ _ us hl => match us, hl with | [_, _], _ => rfl) (He.glo_ok X G (c.fact 8 rfl)) lk__law_joined (calls_of (by decide) (all_nil)) (all_nil) (bl_ok X G c) (all_nil) (fun h => by cases h)
theorem ok__law_train (X : K.In h) (G : h.Ns mainGlobals mg) (c : He.SaysD fa fn K) (ce : hx K = true) : FnS P w K mg base 2 "_law_train" 3 aa__law_train := by
  obtain ⟨fd, F⟩ := c.def_ 9 (d := dd__law_train) rfl
  exact fn_ok (ps := ["_law_line_here", "_law_number_here", "_law_most"]) tab__law_train (look tb__law_train) gam (fun _ => 1000) ss__law_train F sc__law_train (FunD.bindsN F fun _ _ _ _ _ _ us hl => match us, hl with | [_, _, _], _ => rfl) (He.glo_ok X G (c.fact 9 rfl)) lk__law_train (calls_of (by decide) (all_cons (P := fun p : Str × Nat × (List D → R D) => FnS P w K mg base 1 p.1 p.2.1 p.2.2) ((ok__law_mix X G c ce).mono (by decide)) (all_cons (P := fun p : Str × Nat × (List D → R D) => FnS P w K mg base 1 p.1 p.2.1 p.2.2) ((ok__law_joined X G c ce).mono (by decide)) (all_cons (P := fun p : Str × Nat × (List D → R D) => FnS P w K mg base 1 p.1 p.2.1 p.2.2) ((ok__law_other X G c ce).mono (by decide)) (all_nil))))) (all_nil) (bl_ok X G c) (all_nil) (fun h => by cases h)
theorem ok__law_moves (X : K.In h) (G : h.Ns mainGlobals mg) (c : He.SaysD fa fn K) (ce : hx K = true) : FnS P w K mg base 2 "_law_moves" 2 aa__law_moves := by
  obtain ⟨fd, F⟩ := c.def_ 10 (d := dd__law_moves) rfl
  exact fn_ok (ps := ["_law_line_here", "_law_train_here"]) tab__law_moves (look tb__law_moves) gam (fun _ => 1000) ss__law_moves F sc__law_moves (FunD.bindsN F fun _ _ _ _ _ _ us hl => match us, hl with | [_, _], _ => rfl) (He.glo_ok X G (c.fact 10 rfl)) lk__law_moves (calls_of (by decide) (all_cons (P := fun p : Str × Nat × (List D → R D) => FnS P w K mg base 1 p.1 p.2.1 p.2.2) ((ok__law_joined X G c ce).mono (by decide)) (all_cons (P := fun p : Str × Nat × (List D → R D) => FnS P w K mg base 1 p.1 p.2.1 p.2.2) ((ok__law_other X G c ce).mono (by decide)) (all_nil)))) (all_nil) (bl_ok X G c) (all_nil) (fun h => by cases h)
theorem ok__law_run (X : K.In h) (G : h.Ns mainGlobals mg) (c : He.SaysD fa fn K) (ce : hx K = true) : FnS P w K mg base 3 "_law_run" 4 aa__law_run := by
  obtain ⟨fd, F⟩ := c.def_ 11 (d := dd__law_run) rfl
  exact fn_ok (ps := ["_law_line_here", "_law_train_here", "_law_number_here", "_law_most"]) tab__law_run (look tb__law_run) gam (fun _ => 1000) ss__law_run F sc__law_run (FunD.bindsN F fun _ _ _ _ _ _ us hl => match us, hl with | [_, _, _, _], _ => rfl) (He.glo_ok X G (c.fact 11 rfl)) lk__law_run (calls_of (by decide) (all_cons (P := fun p : Str × Nat × (List D → R D) => FnS P w K mg base 2 p.1 p.2.1 p.2.2) ((ok__law_mix X G c ce).mono (by decide)) (all_cons (P := fun p : Str × Nat × (List D → R D) => FnS P w K mg base 2 p.1 p.2.1 p.2.2) ((ok__law_moves X G c ce).mono (by decide)) (all_nil)))) (all_nil) (bl_ok X G c) (all_nil) (fun h => by cases h)
theorem ok__law_end_text (X : K.In h) (G : h.Ns mainGlobals mg) (c : He.SaysD fa fn K) (ce : hx K = true) : FnS P w K mg base 1 "_law_end_text" 1 aa__law_end_text := by
  obtain ⟨fd, F⟩ := c.def_ 12 (d := dd__law_end_text) rfl
  exact fn_ok (ps := ["_law_end_here"]) tab__law_end_text (look tb__law_end_text) gam (fun _ => 1000) ss__law_end_text F sc__law_end_text (FunD.bindsN F fun _ _ _ _ _ _ us hl => match us, hl with | [_], _ => rfl) (He.glo_ok X G (c.fact 12 rfl)) lk__law_end_text (calls_of (by decide) (all_nil)) (all_nil) (bl_ok X G c) (all_nil) (fun h => by cases h)
theorem ok__law_train_text (X : K.In h) (G : h.Ns mainGlobals mg) (c : He.SaysD fa fn K) (ce : hx K = true) : FnS P w K mg base 2 "_law_train_text" 1 aa__law_train_text := by
  obtain ⟨fd, F⟩ := c.def_ 13 (d := dd__law_train_text) rfl
  exact fn_ok (ps := ["_law_train_here"]) tab__law_train_text (look tb__law_train_text) gam (fun _ => 1000) ss__law_train_text F sc__law_train_text (FunD.bindsN F fun _ _ _ _ _ _ us hl => match us, hl with | [_], _ => rfl) (He.glo_ok X G (c.fact 13 rfl)) lk__law_train_text (calls_of (by decide) (all_cons (P := fun p : Str × Nat × (List D → R D) => FnS P w K mg base 1 p.1 p.2.1 p.2.2) ((ok__law_end_text X G c ce).mono (by decide)) (all_nil))) (all_nil) (bl_ok X G c) (all_nil) (fun h => by cases h)
theorem ok__law_run_text (X : K.In h) (G : h.Ns mainGlobals mg) (c : He.SaysD fa fn K) (ce : hx K = true) : FnS P w K mg base 2 "_law_run_text" 1 aa__law_run_text := by
  obtain ⟨fd, F⟩ := c.def_ 14 (d := dd__law_run_text) rfl
  exact fn_ok (ps := ["_law_run_here"]) tab__law_run_text (look tb__law_run_text) gam (fun _ => 1000) ss__law_run_text F sc__law_run_text (FunD.bindsN F fun _ _ _ _ _ _ us hl => match us, hl with | [_], _ => rfl) (He.glo_ok X G (c.fact 14 rfl)) lk__law_run_text (calls_of (by decide) (all_cons (P := fun p : Str × Nat × (List D → R D) => FnS P w K mg base 1 p.1 p.2.1 p.2.2) ((ok__law_end_text X G c ce).mono (by decide)) (all_nil))) (all_nil) (bl_ok X G c) (all_nil) (fun h => by cases h)
theorem ok__law_number (X : K.In h) (G : h.Ns mainGlobals mg) (c : He.SaysD fa fn K) (ce : hx K = true) : FnS P w K mg base 1 "_law_number" 1 aa__law_number := by
  obtain ⟨fd, F⟩ := c.def_ 15 (d := dd__law_number) rfl
  exact fn_ok (ps := ["_law_word"]) tab__law_number (look tb__law_number) gam (fun _ => 1000) ss__law_number F sc__law_number (FunD.bindsN F fun _ _ _ _ _ _ us hl => match us, hl with | [_], _ => rfl) (He.glo_ok X G (c.fact 15 rfl)) lk__law_number (calls_of (by decide) (all_nil)) (all_nil) (bl_ok X G c) (all_nil) (fun h => by cases h)
theorem ok__law_end (X : K.In h) (G : h.Ns mainGlobals mg) (c : He.SaysD fa fn K) (ce : hx K = true) : FnS P w K mg base 2 "_law_end" 1 aa__law_end := by
  obtain ⟨fd, F⟩ := c.def_ 16 (d := dd__law_end) rfl
  exact fn_ok (ps := ["_law_word"]) tab__law_end (look tb__law_end) gam (fun _ => 1000) ss__law_end F sc__law_end (FunD.bindsN F fun _ _ _ _ _ _ us hl => match us, hl with | [_], _ => rfl) (He.glo_ok X G (c.fact 16 rfl)) lk__law_end (calls_of (by decide) (all_cons (P := fun p : Str × Nat × (List D → R D) => FnS P w K mg base 1 p.1 p.2.1 p.2.2) ((ok__law_number X G c ce).mono (by decide)) (all_nil))) (all_nil) (bl_ok X G c) (all_nil) (fun h => by cases h)
theorem ok__law_read_train (X : K.In h) (G : h.Ns mainGlobals mg) (c : He.SaysD fa fn K) (ce : hx K = true) : FnS P w K mg base 3 "_law_read_train" 1 aa__law_read_train := by
  obtain ⟨fd, F⟩ := c.def_ 17 (d := dd__law_read_train) rfl
  exact fn_ok (ps := ["_law_text"]) tab__law_read_train (look tb__law_read_train) gam (fun _ => 1000) ss__law_read_train F sc__law_read_train (FunD.bindsN F fun _ _ _ _ _ _ us hl => match us, hl with | [_], _ => rfl) (He.glo_ok X G (c.fact 17 rfl)) lk__law_read_train (calls_of (by decide) (all_cons (P := fun p : Str × Nat × (List D → R D) => FnS P w K mg base 2 p.1 p.2.1 p.2.2) ((ok__law_end X G c ce).mono (by decide)) (all_nil))) (all_nil) (bl_ok X G c) (all_nil) (fun h => by cases h)
theorem ok__law_read_run (X : K.In h) (G : h.Ns mainGlobals mg) (c : He.SaysD fa fn K) (ce : hx K = true) : FnS P w K mg base 3 "_law_read_run" 1 aa__law_read_run := by
  obtain ⟨fd, F⟩ := c.def_ 18 (d := dd__law_read_run) rfl
  exact fn_ok (ps := ["_law_text"]) tab__law_read_run (look tb__law_read_run) gam (fun _ => 1000) ss__law_read_run F sc__law_read_run (FunD.bindsN F fun _ _ _ _ _ _ us hl => match us, hl with | [_], _ => rfl) (He.glo_ok X G (c.fact 18 rfl)) lk__law_read_run (calls_of (by decide) (all_cons (P := fun p : Str × Nat × (List D → R D) => FnS P w K mg base 2 p.1 p.2.1 p.2.2) ((ok__law_end X G c ce).mono (by decide)) (all_nil))) (all_nil) (bl_ok X G c) (all_nil) (fun h => by cases h)
theorem ok__law_bent_row (X : K.In h) (G : h.Ns mainGlobals mg) (c : He.SaysD fa fn K) (ce : hx K = true) : FnS P w K mg base 1 "_law_bent_row" 3 aa__law_bent_row := by
  obtain ⟨fd, F⟩ := c.def_ 19 (d := dd__law_bent_row) rfl
  exact fn_ok (ps := ["_law_row", "_law_number_here", "_law_cell"]) tab__law_bent_row (look tb__law_bent_row) gam (fun _ => 1000) ss__law_bent_row F sc__law_bent_row (FunD.bindsN F fun _ _ _ _ _ _ us hl => match us, hl with | [_, _, _], _ => rfl) (He.glo_ok X G (c.fact 19 rfl)) lk__law_bent_row (calls_of (by decide) (all_nil)) (all_nil) (bl_ok X G c) (all_nil) (fun h => by cases h)
theorem ok__law_bent (X : K.In h) (G : h.Ns mainGlobals mg) (c : He.SaysD fa fn K) (ce : hx K = true) : FnS P w K mg base 2 "_law_bent" 3 aa__law_bent := by
  obtain ⟨fd, F⟩ := c.def_ 20 (d := dd__law_bent) rfl
  exact fn_ok (ps := ["_law_text", "_law_number_here", "_law_cell"]) tab__law_bent (look tb__law_bent) gam (fun _ => 1000) ss__law_bent F sc__law_bent (FunD.bindsN F fun _ _ _ _ _ _ us hl => match us, hl with | [_, _, _], _ => rfl) (He.glo_ok X G (c.fact 20 rfl)) lk__law_bent (calls_of (by decide) (all_cons (P := fun p : Str × Nat × (List D → R D) => FnS P w K mg base 1 p.1 p.2.1 p.2.2) ((ok__law_bent_row X G c ce).mono (by decide)) (all_nil))) (all_nil) (bl_ok X G c) (all_nil) (fun h => by cases h)
theorem ok__law_kind (X : K.In h) (G : h.Ns mainGlobals mg) (c : He.SaysD fa fn K) (ce : hx K = true) : FnS P w K mg base 1 "_law_kind" 1 aa__law_kind := by
  obtain ⟨fd, F⟩ := c.def_ 21 (d := dd__law_kind) rfl
  exact fn_ok (ps := ["_law_kept"]) tab__law_kind (look tb__law_kind) gam (fun _ => 1000) ss__law_kind F sc__law_kind (FunD.bindsN F fun _ _ _ _ _ _ us hl => match us, hl with | [_], _ => rfl) (He.glo_ok X G (c.fact 21 rfl)) lk__law_kind (calls_of (by decide) (all_nil)) (all_nil) (bl_ok X G c) (all_nil) (fun _ => exK_of X G ce)
theorem ok__law_right (X : K.In h) (G : h.Ns mainGlobals mg) (c : He.SaysD fa fn K) (ce : hx K = true) : FnS P w K mg base 4 "_law_right" 3 aa__law_right := by
  obtain ⟨fd, F⟩ := c.def_ 22 (d := dd__law_right) rfl
  exact fn_ok (ps := ["_law_text", "_law_due", "_law_of_run"]) tab__law_right (look tb__law_right) gam (fun _ => 1000) ss__law_right F sc__law_right (FunD.bindsN F fun _ _ _ _ _ _ us hl => match us, hl with | [_, _, _], _ => rfl) (He.glo_ok X G (c.fact 22 rfl)) lk__law_right (calls_of (by decide) (all_cons (P := fun p : Str × Nat × (List D → R D) => FnS P w K mg base 3 p.1 p.2.1 p.2.2) ((ok__law_kind X G c ce).mono (by decide)) (all_cons (P := fun p : Str × Nat × (List D → R D) => FnS P w K mg base 3 p.1 p.2.1 p.2.2) ((ok_read_run X G c ce).mono (by decide)) (all_cons (P := fun p : Str × Nat × (List D → R D) => FnS P w K mg base 3 p.1 p.2.1 p.2.2) ((ok_read_train X G c ce).mono (by decide)) (all_nil))))) (all_nil) (bl_ok X G c) (all_nil) (fun _ => exK_of X G ce)
theorem ok_law (X : K.In h) (G : h.Ns mainGlobals mg) (c : He.SaysD fa fn K) (ce : hx K = true) {a : Addr} {fd : FuncData} (F : FunD K "law" "law" (defArgs st_law) (defBody st_law) (defScope st_law) [] [] a fd) : FnOk P w K mg base (L2.CX P w) 5 a fd ["_law_script"] (spD K mg 1 aa_law) := fn_okF tab_law (look tb_law) gam (fun _ => 1000) ss_law F sc_law lk_law (calls_of (by decide) (all_cons (P := fun p : Str × Nat × (List D → R D) => FnS P w K mg base 4 p.1 p.2.1 p.2.2) ((ok__law_right X G c ce).mono (by decide)) (all_cons (P := fun p : Str × Nat × (List D → R D) => FnS P w K mg base 4 p.1 p.2.1 p.2.2) ((ok__law_read_run X G c ce).mono (by decide)) (all_cons (P := fun p : Str × Nat × (List D → R D) => FnS P w K mg base 4 p.1 p.2.1 p.2.2) ((ok__law_read_train X G c ce).mono (by decide)) (all_cons (P := fun p : Str × Nat × (List D → R D) => FnS P w K mg base 4 p.1 p.2.1 p.2.2) ((ok__law_bent X G c ce).mono (by decide)) (all_cons (P := fun p : Str × Nat × (List D → R D) => FnS P w K mg base 4 p.1 p.2.1 p.2.2) ((ok__law_mix X G c ce).mono (by decide)) (all_cons (P := fun p : Str × Nat × (List D → R D) => FnS P w K mg base 4 p.1 p.2.1 p.2.2) ((ok__law_cell_at X G c ce).mono (by decide)) (all_cons (P := fun p : Str × Nat × (List D → R D) => FnS P w K mg base 4 p.1 p.2.1 p.2.2) ((ok__law_run_text X G c ce).mono (by decide)) (all_cons (P := fun p : Str × Nat × (List D → R D) => FnS P w K mg base 4 p.1 p.2.1 p.2.2) ((ok__law_train_text X G c ce).mono (by decide)) (all_cons (P := fun p : Str × Nat × (List D → R D) => FnS P w K mg base 4 p.1 p.2.1 p.2.2) ((ok__law_run X G c ce).mono (by decide)) (all_cons (P := fun p : Str × Nat × (List D → R D) => FnS P w K mg base 4 p.1 p.2.1 p.2.2) ((ok__law_train X G c ce).mono (by decide)) (all_cons (P := fun p : Str × Nat × (List D → R D) => FnS P w K mg base 4 p.1 p.2.1 p.2.2) ((ok__law_line X G c ce).mono (by decide)) (all_nil))))))))))))) (all_nil) (bl_ok X G c) (all_nil) (fun h => by cases h)
end

theorem law_holds (ML : Nat) (hML : (PySem.Challenge.rw_turnline_k74_other_texts_that_are_none).most = some ML) (hML2 : ML ≤ sizeLine) (plain : ∀ ns : List Int, ns.length ≤ ML → aa_law [script ns] = .ok (.bl true)) : PySem.Challenge.rw_turnline_k74_other_texts_that_are_none.Holds := by
  w_on; o_law
  refine HandSHeadRun.head_any (r := PySem.W.OpenLaw.row PySem.Challenge.rw_turnline_k74_other_texts_that_are_none) (q := PySem.W.view (PySem.W.OpenLaw.row PySem.Challenge.rw_turnline_k74_other_texts_that_are_none).prog [36]) (H := hk) (ob := ob) (M := 4000) (loose := loose) (d := HandSHeadRun.topDef (PySem.W.OpenLaw.row PySem.Challenge.rw_turnline_k74_other_texts_that_are_none).prog 36) (kwd := []) ob_eq
    (by kernel_rfl) (fun s => by kernel_rfl) run (by kernel_rfl) (by kernel_rfl) (by kernel_rfl) (by rfl) (by first | assumption | decide +kernel) (by decide +kernel) ⟨rfl, rfl, rfl, rfl, rfl, by decide +kernel⟩ ?hw ?hc
  case hw => w_witness2
  case hc =>
    refine L2.walk_ofE (l := PySem.Challenge.rw_turnline_k74_other_texts_that_are_none) (n := ML) (k := 5) (x := "_law_script") (CX := L2.CX0) hML hML2 (by kernel_rfl) ⟨rfl, by decide, by decide⟩ ?F (fun _ _ _ _ z => z)
    intro w mg fa' h Y G hmg0
    obtain ⟨K, KX, c, ce⟩ := Y
    have hmg : mg ("law" : PySem.Str) = some (.ref fa') := by
      have e : (HandSHeadRun.topDef (PySem.W.OpenLaw.row PySem.Challenge.rw_turnline_k74_other_texts_that_are_none).prog 36).name = ("law" : PySem.Str) := by kernel_rfl
      rw [← e]
      exact hmg0
    obtain ⟨fd, F⟩ := c.def_ 23 (d := dd_law) rfl
    have e := hmg.symm.trans (He.glo_ok KX G (c.fact 23 rfl))
    cases e
    refine ⟨K, fd, fun vs H Q _ => spD K mg 1 aa_law vs H Q E0, KX, fun s u => FunD.bindsA (ps := ["_law_script"]) F (fun _ _ _ _ _ _ us hl => match us, hl with | [_], _ => rfl) s [u] rfl, fun H a ns hl _ hS => law_sp hS (plain ns hl), fun base KX2 G2 => to0 (ok_law KX2 G2 c ce F)⟩

end K74

namespace K74
open PySem PySem.Spec L2 Mn
open PyProof.Rows hiding St
/-! ### texts -/
abbrev tx (l : List Nat) : Str := SX.S l
def Lo (l : List Nat) : Prop := ∀ c, c ∈ l → c < 256
theorem Lo.app {a b : List Nat} (h : Lo a) (k : Lo b) : Lo (a ++ b) := fun c hc => (List.mem_append.mp hc).elim (h c) (k c)
theorem Lo.left {a b : List Nat} (h : Lo (a ++ b)) : Lo a := fun c hc => h c (List.mem_append_left _ hc)
theorem Lo.right {a b : List Nat} (h : Lo (a ++ b)) : Lo b := fun c hc => h c (List.mem_append_right _ hc)
theorem Lo.sub {a b : List Nat} (h : Lo b) (k : ∀ c, c ∈ a → c ∈ b) : Lo a := fun c hc => h c (k c hc)
theorem Lo.of {l : List Nat} (h : l.all (· < 256) = true) : Lo l := fun c hc => by simpa using List.all_eq_true.mp h c hc
theorem tx_inj {a b : List Nat} : tx a = tx b ↔ a = b := ⟨SX.S_inj, fun h => by rw [h]⟩
theorem tx_len (l : List Nat) : (tx l).length = l.length := SX.S_len l
theorem okS_tx {l : List Nat} (h : Lo l) : okS (tx l) := by
  show (tx l).cps.all (· < 0x110000) = true
  rw [← Array.all_toList]
  exact List.all_eq_true.mpr fun c hc => by have := h c hc; simp; omega
theorem eq_tx {a b : List Nat} (ha : Lo a) (hb : Lo b) : cmpop .eq (.str (tx a)) (.str (tx b)) = .ok (.bl (decide (a = b))) := by
  rw [eq_str (okS_tx ha) (okS_tx hb)]
  simp [tx_inj]
theorem ne_tx {a b : List Nat} (ha : Lo a) (hb : Lo b) : cmpop .ne (.str (tx a)) (.str (tx b)) = .ok (.bl (!decide (a = b))) := by
  rw [ne_str (okS_tx ha) (okS_tx hb)]
  simp [tx_inj]
theorem bo_tx {a b : List Nat} (h : a.length + b.length ≤ 16777216) : binop .add (.str (tx a)) (.str (tx b)) = .ok (.str (tx (a ++ b))) := by
  show (if (tx a).length + (tx b).length ≤ LIM then R.ok (D.str (tx a ++ tx b)) else .bad) = _
  rw [tx_len, tx_len, if_pos h, SX.S_cat]
theorem len_tx {l : List Nat} (h : l.length ≤ 16777216) : bltop .len [.str (tx l)] = .ok (.int l.length) := by
  show (if (tx l).length ≤ LIM then R.ok (D.int (tx l).length) else .bad) = _
  rw [tx_len, if_pos h]
theorem ix_tx {l : List Nat} {i c : Nat} (h : l[i]? = some c) (hl : l.length ≤ 16777216) : ixop (.str (tx l)) (.int (i : Int)) = .ok (.str (tx [c])) := by
  have hi := (List.getElem?_eq_some_iff.mp h).1
  show (if (tx l).length ≤ LIM then (match atI l (i : Int) with | some c => R.ok (D.str ⟨#[c]⟩) | none => .bad) else .bad) = _
  have e : atI l (i : Int) = some c := by
    unfold atI
    rw [show ixN l.length (i : Int) = some i by unfold ixN; simp; omega]
    exact h
  rw [tx_len, if_pos hl, e]
theorem ix_txl {l : List Nat} {c : Nat} (h : l.getLast? = some c) (hl : l.length ≤ 16777216) : ixop (.str (tx l)) (.int (-1)) = .ok (.str (tx [c])) := by
  have hne : l ≠ [] := by rintro rfl; simp at h
  have hp := List.length_pos_iff.mpr hne
  show (if (tx l).length ≤ LIM then (match atI l (-1) with | some c => R.ok (D.str ⟨#[c]⟩) | none => .bad) else .bad) = _
  have e : atI l (-1) = some c := by
    unfold atI
    rw [show ixN l.length (-1) = some (l.length - 1) by unfold ixN; simp; omega]
    rw [← h, List.getLast?_eq_getElem?]
    rfl
  rw [tx_len, if_pos hl, e]
def dtx (L : List (List Nat)) : List D := L.map fun l => .str (tx l)
@[simp] theorem dtx_len {L : List (List Nat)} : (dtx L).length = L.length := by simp [dtx]
@[simp] theorem dtx_nil : dtx [] = [] := rfl
@[simp] theorem dtx_cons {l : List Nat} {L : List (List Nat)} : dtx (l :: L) = .str (tx l) :: dtx L := rfl
theorem dtx_app {L M : List (List Nat)} : dtx (L ++ M) = dtx L ++ dtx M := by simp [dtx]
@[simp] theorem frzs_dtx {L : List (List Nat)} : D.frzs (dtx L) = dtx L := by
  rw [D.frzs_eq]
  simp [dtx]
@[simp] theorem purs_dtx {L : List (List Nat)} : D.purs (dtx L) = true := by
  rw [D.purs_eq]
  simp [dtx]
@[simp] theorem flats_dtx {L : List (List Nat)} : D.flats (dtx L) = true := by
  rw [D.flats_eq]
  simp [dtx, D.flat]
theorem dtx_get {L : List (List Nat)} {i : Nat} {d : D} (h : (dtx L)[i]? = some d) : ∃ l, L[i]? = some l ∧ d = .str (tx l) := by
  unfold dtx at h
  rw [List.getElem?_map, Option.map_eq_some_iff] at h
  obtain ⟨l, h1, h2⟩ := h
  exact ⟨l, h1, h2.symm⟩
theorem dtx_ix {L : List (List Nat)} {k : LK} {i : Nat} {l : List Nat} (h : L[i]? = some l) : ixop (.lst k (dtx L)) (.int (i : Int)) = .ok (.str (tx l)) := by
  have hi := (List.getElem?_eq_some_iff.mp h).1
  show (match atI (dtx L) (i : Int) with | some d => R.ok d | none => .bad) = _
  have e : atI (dtx L) (i : Int) = some (.str (tx l)) := by
    unfold atI
    rw [show ixN (dtx L).length (i : Int) = some i by unfold ixN; simp; omega]
    show (dtx L)[i]? = _
    unfold dtx
    rw [List.getElem?_map, h]
    rfl
  rw [e]
theorem strsOf_dtx : ∀ L : List (List Nat), strsOf (dtx L) = some (L.map tx)
  | [] => rfl
  | l :: L => by
    have := strsOf_dtx L
    simp [strsOf, this]
theorem split_tx {a : List Nat} {c : Nat} (hc : c < 256) (h : a.length + 2 ≤ 16777216) : splop (.str (tx a)) (.str (tx [c])) = .ok (.lst .own (dtx (TL.spl [c] 0 [] a))) := by
  show (if (tx [c]).length ≠ 0 ∧ (tx a).length + 2 ≤ LIM then R.ok (D.lst .own ((Txt.split (tx a) (tx [c])).map D.str)) else .bad) = _
  rw [tx_len, tx_len, if_pos ⟨by simp, h⟩, SX.split_S (by simp) (by simpa using hc), List.map_map]
  rfl
theorem join_tx {t : List Nat} {L : List (List Nat)} {k : LK} (h : (L.map (·.length)).sum + L.length * t.length ≤ 16777216) : joop (.str (tx t)) (.lst k (dtx L)) = .ok (.str (tx (TL.joinL t L))) := by
  show joinS (tx t) (strsOf (dtx L)) = _
  rw [strsOf_dtx]
  show (if ((L.map tx).map (·.length)).sum + (L.map tx).length * (tx t).length ≤ LIM then R.ok (D.str (Txt.join (tx t) (L.map tx))) else .bad) = _
  rw [List.map_map, List.length_map, tx_len, show ((fun x : Str => x.length) ∘ tx) = fun l : List Nat => l.length from funext fun l => tx_len l, if_pos h]
  rw [show L.map tx = L.map SX.S from rfl, SX.join_S]
theorem sl_tx {l : List Nat} {lo hi : Option Int} (h : l.length ≤ 16777216) : slop (.str (tx l)) lo hi = .ok (.str (Txt.slice (tx l) lo hi)) := by
  show (if (tx l).length ≤ LIM then R.ok (D.str (cutS (tx l) lo hi)) else .bad) = _
  rw [tx_len, if_pos h, C8.cutS_slice]
theorem sl_last {l : List Nat} (h : l.length ≤ 16777216) : slop (.str (tx l)) (some (-1)) none = .ok (.str (tx (l.drop (l.length - 1)))) := by
  rw [sl_tx h]
  by_cases c : l = []
  · subst c; rfl
  · rw [SX.slice_last c]
theorem sl_init {l : List Nat} (h : l.length ≤ 16777216) : slop (.str (tx l)) none (some (-1)) = .ok (.str (tx l.dropLast)) := by
  rw [sl_tx h]
  by_cases c : l = []
  · subst c; rfl
  · rw [SX.slice_butlast c, ← List.dropLast_eq_take]
theorem sl_to {l : List Nat} {i : Int} (h : l.length ≤ 16777216) (hi : 0 ≤ i) : slop (.str (tx l)) none (some i) = .ok (.str (tx (l.take i.toNat))) := by
  rw [sl_tx h, SX.slice_to hi]
theorem sl_from {l : List Nat} {i : Int} (h : l.length ≤ 16777216) (hi : 0 ≤ i) : slop (.str (tx l)) (some i) none = .ok (.str (tx (l.drop i.toNat))) := by
  rw [sl_tx h, SX.slice_from hi]
theorem notin_tx {c : Nat} {z : List Nat} : cmpop .notin (.str (tx [c])) (.str (tx z)) = .ok (.bl (!decide (c ∈ z))) := id rfl
theorem in_tx {c : Nat} {z : List Nat} : cmpop .isin (.str (tx [c])) (.str (tx z)) = .ok (.bl (decide (c ∈ z))) := id rfl
def dsg (l : List Nat) : List D := l.map fun c => .str (tx [c])
@[simp] theorem dsg_len {l : List Nat} : (dsg l).length = l.length := by simp [dsg]
theorem signs_tx {l : List Nat} : Mn.signs (tx l) = dsg l := rfl
theorem str_nat {n : Int} (h0 : 0 ≤ n) (h1 : n < 1000000000000) : bltop .str [.int n] = .ok (.str (tx (TL.numL n.toNat))) := by
  show (if n.natAbs < 18446744073709551616 then R.ok (D.str (Str.ofString (toString n))) else .bad) = _
  rw [if_pos (by omega)]
  have : (toString n) = toString ((n.toNat : Nat) : Int) := by rw [Int.toNat_of_nonneg h0]
  rw [this, SX.num_S]
def dig (c : Nat) : Bool := decide (48 ≤ c) && decide (c ≤ 57)
theorem int_tx {a : List Nat} (h : a.all dig = true) (hne : a ≠ []) (hl : a.length ≤ 40) : bltop .int [.str (tx a)] = .ok (.int ((NumText.digitsVal a : Nat) : Int)) := by
  show (if (tx a).length ≤ 640 then (match intText? (tx a) with | some n => R.ok (D.int n) | none => .bad) else .bad) = _
  rw [tx_len, if_pos (by omega), SX.int_S h hne (by omega)]
/-! literals -/
theorem l_lt : Str.ofString "<" = tx [60] := by decide +kernel
theorem l_gt : Str.ofString ">" = tx [62] := by decide +kernel
theorem l_ltgt : Str.ofString "<>" = tx [60, 62] := by decide +kernel
theorem l_sp : Str.ofString " " = tx [32] := by decide +kernel
theorem l_nl : Str.ofString "\n" = tx [10] := by decide +kernel
theorem l_0 : Str.ofString "0" = tx [48] := by decide +kernel
theorem l_e : Str.ofString "" = tx [] := by decide +kernel
theorem l_fig : Str.ofString "0123456789" = tx [48, 49, 50, 51, 52, 53, 54, 55, 56, 57] := by decide +kernel
theorem fig_mem {c : Nat} : decide (c ∈ [48, 49, 50, 51, 52, 53, 54, 55, 56, 57]) = dig c := by
  unfold dig
  rw [Bool.eq_iff_iff]
  simp
  omega

end K74

namespace K74
open PySem PySem.Spec L2 Mn
open PyProof.Rows hiding St
/-! ### numbers and ends in texts -/
def numIn (l : List Nat) : Option Int := if l = [] ∨ 40 < l.length ∨ l.all dig = false ∨ (l.head? = some 48 ∧ l ≠ [48]) then none else some ((NumText.digitsVal l : Nat) : Int)
theorem dig_lo {l : List Nat} (h : l.all dig = true) : Lo l := fun c hc => by
  have := List.all_eq_true.mp h c hc
  simp [dig] at this
  omega
theorem num_loop {w : D} : ∀ (l : List Nat) (x : D), ∃ y δ', loopF (body (look tb_number_in) gam 1000 (.nm 1) b3_number_in) (dsg l) [w, x] = if l.all dig = true then .next [w, y] else .exc "NoText" δ'
  | [], x => ⟨x, [], rfl⟩
  | c :: l, x => by
    have e1 : dsg (c :: l) = .str (tx [c]) :: dsg l := rfl
    have g : gam "FIGURES" = .str (tx [48, 49, 50, 51, 52, 53, 54, 55, 56, 57]) := by rw [← l_fig]; rfl
    have n1 := notin_tx (c := c) (z := [48, 49, 50, 51, 52, 53, 54, 55, 56, 57])
    rw [fig_mem] at n1
    rw [e1, loopF_cons]
    cases hc : dig c with
    | true =>
      obtain ⟨y, δ', ih⟩ := num_loop l (.str (tx [c]))
      refine ⟨y, δ', ?_⟩
      have : body (look tb_number_in) gam 1000 (.nm 1) b3_number_in (.str (tx [c])) [w, x] = .next [w, .str (tx [c])] := by
        rw [hc] at n1
        simp [body_ap, b3_number_in, i4_number_in, g, n1]
      rw [this, thn_next, ih]
      simp [hc]
    | false =>
      refine ⟨.any, [w, .str (tx [c])], ?_⟩
      have : body (look tb_number_in) gam 1000 (.nm 1) b3_number_in (.str (tx [c])) [w, x] = .exc "NoText" [w, .str (tx [c])] := by
        rw [hc] at n1
        simp [body_ap, b3_number_in, i4_number_in, g, n1]
      rw [this]
      simp [hc]
theorem sp_number_in {l : List Nat} (hl : l.length ≤ 16777216) (lo : Lo l) : aa_number_in [.str (tx l)] = match numIn l with
    | some n => .ok (.int n)
    | none => .exc "NoText" := by
  have e1 := eq_tx (b := []) lo (fun _ h => by cases h)
  have e2 := len_tx hl
  have g : gam "LONGEST" = .int 40 := by rfl
  unfold numIn
  by_cases c1 : l = []
  · subst c1
    have ee : cmpop .eq (.str (tx [])) (.str (tx [])) = .ok (.bl true) := by rw [e1]; rfl
    simp [aa_number_in, runS_val, ss_number_in, i1_number_in, l_e, ee]
  · by_cases c2 : 40 < l.length
    · rw [if_pos (.inr (.inl c2))]
      have c2' : (40 : Int) < l.length := by omega
      simp [aa_number_in, runS_val, ss_number_in, i1_number_in, l_e, e1, c1, e2, g, c2']
    · obtain ⟨y, δ', lp⟩ := num_loop (w := .str (tx l)) l .any
      have c2' : ¬ (40 : Int) < l.length := by omega
      cases c3 : l.all dig with
      | false =>
        rw [if_pos (.inr (.inr (.inl rfl)))]
        rw [c3] at lp
        simp [aa_number_in, runS_val, ss_number_in, i1_number_in, l_e, e1, c1, e2, g, c2', signs_tx, lp]
      | true =>
        rw [c3] at lp
        simp only [if_true] at lp
        obtain ⟨h, r, rfl⟩ := List.exists_cons_of_ne_nil c1
        have hh : Lo [h] := fun c hc => lo c (by rw [List.mem_singleton.mp hc]; simp)
        have i0 : ixop (.str (tx (h :: r))) (.int 0) = .ok (.str (tx [h])) := ix_tx (i := 0) rfl hl
        have e3 := eq_tx (b := [48]) hh (fun c hc => by rw [List.mem_singleton.mp hc]; omega)
        have e4 := ne_tx (b := [48]) lo (fun c hc => by rw [List.mem_singleton.mp hc]; omega)
        have e5 := int_tx c3 c1 (by omega)
        by_cases c4 : h = 48
        · subst c4
          have e3' : cmpop .eq (.str (tx [48])) (.str (tx [48])) = .ok (.bl true) := by rw [e3]; rfl
          by_cases c5 : r = []
          · subst c5
            have e4' : cmpop .ne (.str (tx [48])) (.str (tx [48])) = .ok (.bl false) := by rw [e4]; rfl
            rw [if_neg (by simp [dig])]
            simp [aa_number_in, runS_val, ss_number_in, i1_number_in, i6_number_in, l_e, l_0, e1, e2, g, signs_tx, lp, i0, e3', e4', e5]
          · have e4' : cmpop .ne (.str (tx (48 :: r))) (.str (tx [48])) = .ok (.bl true) := by rw [e4]; simp [c5]
            rw [if_pos (.inr (.inr (.inr ⟨rfl, by simp [c5]⟩)))]
            have c2'' : ¬ (40 : Int) < (r.length : Int) + 1 := by simp at c2'; omega
            simp at e2
            simp [aa_number_in, runS_val, ss_number_in, i1_number_in, i6_number_in, l_e, l_0, e1, e2, g, c2'', signs_tx, lp, i0, e3', e4']
        · have e3' : cmpop .eq (.str (tx [h])) (.str (tx [48])) = .ok (.bl false) := by rw [e3]; simp [c4]
          rw [if_neg (by
            rintro (z | z | z | ⟨z, _⟩)
            · exact c1 z
            · exact c2 z
            · cases z
            · exact c4 (by simpa using z))]
          have c2'' : ¬ (40 : Int) < (r.length : Int) + 1 := by simp at c2'; omega
          simp at e2
          simp [aa_number_in, runS_val, ss_number_in, i1_number_in, i6_number_in, l_e, l_0, e1, e2, g, c2'', signs_tx, lp, i0, e3', e5]
/-! ends -/
def endIn (l : List Nat) : Option Int := match l.getLast? with
  | some 60 => (numIn l.dropLast).map (2 * ·)
  | some 62 => (numIn l.dropLast).map (2 * · + 1)
  | _ => none
theorem numIn_rg {l : List Nat} {n : Int} (h : numIn l = some n) : 0 ≤ n := by
  unfold numIn at h
  split at h
  · cases h
  · cases h
    omega
theorem sp_end_in {l : List Nat} (hl : l.length ≤ 16777216) (lo : Lo l) : aa_end_in [.str (tx l)] = match endIn l with
    | some n => .ok (.int n)
    | none => .exc "NoText" := by
  have s1 := sl_last hl
  have s2 := sl_init hl
  have f1 : ∀ δ : List D, Mn.ev (look tb_end_in) gam (.slice (.slot 0) (.neg (.int 1)) .nil) δ = (rd (getD' δ 0) >>= fun x => slop x (some (-1)) none) := fun δ => by
    rw [ev_slo rfl]
    simp
  have f2 : ∀ δ : List D, Mn.ev (look tb_end_in) gam (.slice (.slot 0) .nil (.neg (.int 1))) δ = (rd (getD' δ 0) >>= fun x => slop x none (some (-1))) := fun δ => by
    rw [ev_shi rfl]
    simp
  have lod : Lo l.dropLast := lo.sub fun c hc => (List.dropLast_sublist l).subset hc
  have ld : l.dropLast.length ≤ 16777216 := by simp; omega
  have ni := sp_number_in ld lod
  have lol : Lo (l.drop (l.length - 1)) := lo.sub fun c hc => List.mem_of_mem_drop hc
  have n1 := ne_tx (b := [60]) lol (fun c hc => by rw [List.mem_singleton.mp hc]; omega)
  have n2 := ne_tx (b := [62]) lol (fun c hc => by rw [List.mem_singleton.mp hc]; omega)
  have n3 := eq_tx (b := [62]) lol (fun c hc => by rw [List.mem_singleton.mp hc]; omega)
  have dl : l.drop (l.length - 1) = match l.getLast? with
    | some c => [c]
    | none => [] := by
    by_cases c : l = []
    · subst c; rfl
    · rw [List.getLast?_eq_some_getLast c]
      obtain ⟨ys, hys⟩ := List.getLast?_eq_some_iff.mp (List.getLast?_eq_some_getLast c)
      generalize l.getLast c = a at hys ⊢
      subst hys
      simp
  unfold endIn
  cases hg : l.getLast? with
  | none =>
    rw [hg] at dl
    simp only at dl
    rw [dl] at s1 n1 n2
    simp [aa_end_in, runS_val, ss_end_in, i1_end_in, f1, s1, l_lt, l_gt, n1, n2]
  | some c =>
    rw [hg] at dl
    simp only at dl
    rw [dl] at s1 n1 n2 n3
    by_cases c1 : c = 60
    · subst c1
      have n1' : cmpop .ne (.str (tx [60])) (.str (tx [60])) = .ok (.bl false) := by rw [n1]; rfl
      have n3' : cmpop .eq (.str (tx [60])) (.str (tx [62])) = .ok (.bl false) := by rw [n3]; rfl
      cases hn : numIn l.dropLast with
      | none =>
        rw [hn] at ni
        simp [aa_end_in, runS_val, ss_end_in, i1_end_in, f1, f2, s1, s2, l_lt, l_gt, n1', n3', ni]
      | some k =>
        rw [hn] at ni
        simp [aa_end_in, runS_val, ss_end_in, i1_end_in, f1, f2, s1, s2, l_lt, l_gt, n1', n3', ni, bo_mul (i := 2) (.inl (by omega))]
    · by_cases c2 : c = 62
      · subst c2
        have n1' : cmpop .ne (.str (tx [62])) (.str (tx [60])) = .ok (.bl true) := by rw [n1]; rfl
        have n2' : cmpop .ne (.str (tx [62])) (.str (tx [62])) = .ok (.bl false) := by rw [n2]; rfl
        have n3' : cmpop .eq (.str (tx [62])) (.str (tx [62])) = .ok (.bl true) := by rw [n3]; rfl
        cases hn : numIn l.dropLast with
        | none =>
          rw [hn] at ni
          simp [aa_end_in, runS_val, ss_end_in, i1_end_in, f1, f2, s1, s2, l_lt, l_gt, n1', n2', n3', ni]
        | some k =>
          rw [hn] at ni
          simp [aa_end_in, runS_val, ss_end_in, i1_end_in, f1, f2, s1, s2, l_lt, l_gt, n1', n2', n3', ni, bo_mul (i := 2) (.inl (by omega))]
      · have n1' : cmpop .ne (.str (tx [c])) (.str (tx [60])) = .ok (.bl true) := by rw [n1]; simp [c1]
        have n2' : cmpop .ne (.str (tx [c])) (.str (tx [62])) = .ok (.bl true) := by rw [n2]; simp [c2]
        have : (match some c with
          | some 60 => (numIn l.dropLast).map (2 * ·)
          | some 62 => (numIn l.dropLast).map (2 * · + 1)
          | _ => none) = none := by
          split
          · rename_i z; cases z; exact absurd rfl c1
          · rename_i z; cases z; exact absurd rfl c2
          · rfl
        rw [this]
        simp [aa_end_in, runS_val, ss_end_in, i1_end_in, f1, s1, l_lt, l_gt, n1', n2']
/-! what is shown is read again -/
theorem numL_head {n : Nat} (h : (TL.numL n).head? = some 48) : TL.numL n = [48] := by
  induction n using Nat.strongRecOn with
  | _ n ih =>
    by_cases c : n < 10
    · rw [TL.numL_lt c] at h ⊢
      simp at h
      rw [show n = 0 by omega]
    · exfalso
      rw [TL.numL_step (by omega)] at h
      have h2 : (TL.numL (n / 10)).head? = some 48 := by
        obtain ⟨a, r, e⟩ := List.exists_cons_of_ne_nil (TL.numL_ne (n / 10))
        rw [e] at h ⊢
        simpa using h
      have := congrArg NumText.digitsVal (ih (n / 10) (by omega) h2)
      rw [TL.numL_val] at this
      have z : NumText.digitsVal [48] = 0 := by decide
      omega
theorem numL_dig (n : Nat) : (TL.numL n).all dig = true := by
  rw [List.all_eq_true]
  intro c hc
  have := TL.numL_digits n c hc
  simp [dig]
  omega
theorem numIn_num {n : Nat} (h : n < 10 ^ 40) : numIn (TL.numL n) = some (n : Int) := by
  unfold numIn
  rw [if_neg, TL.numL_val]
  rintro (z | z | z | ⟨z, y⟩)
  · exact TL.numL_ne n z
  · have := TL.numL_len (k := 40) (by omega) h
    omega
  · rw [numL_dig] at z; cases z
  · exact y (numL_head z)
def endL (e : Int) : List Nat := TL.numL (e / 2).toNat ++ [if e % 2 = 0 then 60 else 62]
theorem endIn_end {e : Int} (h0 : 0 ≤ e) (h1 : e < 1000000000) : endIn (endL e) = some e := by
  unfold endIn endL
  rw [List.getLast?_append, List.dropLast_append_of_ne_nil (by simp)]
  have n1 := numIn_num (n := (e / 2).toNat) (by omega)
  by_cases c : e % 2 = 0
  · simp [c, n1]
    omega
  · simp [c, n1]
    omega
theorem endL_dig (e : Int) : ∀ c, c ∈ endL e → dig c = true ∨ c = 60 ∨ c = 62 := by
  intro c hc
  unfold endL at hc
  rcases List.mem_append.mp hc with hc | hc
  · exact .inl (List.all_eq_true.mp (numL_dig _) c hc)
  · rw [List.mem_singleton.mp hc]
    split <;> simp
theorem endL_lo (e : Int) : Lo (endL e) := fun c hc => by
  rcases endL_dig e c hc with h | rfl | rfl
  · simp [dig] at h; omega
  · omega
  · omega
theorem numL_lo (n : Nat) : Lo (TL.numL n) := dig_lo (numL_dig n)
theorem endL_len {e : Int} (h0 : 0 ≤ e) (h1 : e < 1000000000) : (endL e).length ≤ 10 := by
  unfold endL
  have := TL.numL_len (n := (e / 2).toNat) (k := 9) (by omega) (by omega)
  simp
  omega

end K74

namespace K74
open PySem PySem.Spec L2 Mn
open PyProof.Rows hiding St
/-! ### rows and words -/
theorem spl_ne (S : List Nat) : ∀ (l : List Nat) (k : Nat) (acc : List Nat), TL.spl S k acc l ≠ []
  | [], k, acc => by rw [TL.spl_nil]; simp
  | c :: r, 0, acc => by
    show (if TL.pre S (c :: r) = true then acc :: TL.spl S (S.length - 1) [] r else TL.spl S 0 (acc ++ [c]) r) ≠ []
    split
    · simp
    · exact spl_ne S r 0 _
  | c :: r, k + 1, acc => spl_ne S r k acc
theorem spl_mem (S : List Nat) : ∀ (l : List Nat) (k : Nat) (acc p : List Nat), p ∈ TL.spl S k acc l → ∀ c, c ∈ p → c ∈ acc ∨ c ∈ l
  | [], k, acc, p, h, c, hc => by
    rw [TL.spl_nil] at h
    rw [List.mem_singleton.mp h] at hc
    exact .inl hc
  | d :: r, 0, acc, p, h, c, hc => by
    have h : p ∈ (if TL.pre S (d :: r) = true then acc :: TL.spl S (S.length - 1) [] r else TL.spl S 0 (acc ++ [d]) r) := h
    split at h
    · rcases List.mem_cons.mp h with rfl | h
      · exact .inl hc
      · rcases spl_mem S r _ _ p h c hc with z | z
        · cases z
        · exact .inr (List.mem_cons_of_mem _ z)
    · rcases spl_mem S r _ _ p h c hc with z | z
      · rcases List.mem_append.mp z with z | z
        · exact .inl z
        · exact .inr (by rw [List.mem_singleton.mp z]; exact List.mem_cons_self)
      · exact .inr (List.mem_cons_of_mem _ z)
  | d :: r, k + 1, acc, p, h, c, hc => by
    rcases spl_mem S r k acc p h c hc with z | z
    · exact .inl z
    · exact .inr (List.mem_cons_of_mem _ z)
theorem spl_len (S : List Nat) : ∀ (l : List Nat) (k : Nat) (acc : List Nat), (TL.spl S k acc l).length ≤ l.length + 1 ∧ ∀ p, p ∈ TL.spl S k acc l → p.length ≤ acc.length + l.length
  | [], k, acc => by
    rw [TL.spl_nil]
    refine ⟨by simp, fun p h => ?_⟩
    rw [List.mem_singleton.mp h]
    simp
  | d :: r, 0, acc => by
    have e : TL.spl S 0 acc (d :: r) = (if TL.pre S (d :: r) = true then acc :: TL.spl S (S.length - 1) [] r else TL.spl S 0 (acc ++ [d]) r) := rfl
    rw [e]
    split
    · obtain ⟨h1, h2⟩ := spl_len S r (S.length - 1) []
      refine ⟨by simp; omega, fun p h => ?_⟩
      rcases List.mem_cons.mp h with rfl | h
      · omega
      · have := h2 p h
        simp at this ⊢
        omega
    · obtain ⟨h1, h2⟩ := spl_len S r 0 (acc ++ [d])
      refine ⟨by simp; omega, fun p h => ?_⟩
      have := h2 p h
      simp at this ⊢
      omega
  | d :: r, k + 1, acc => by
    obtain ⟨h1, h2⟩ := spl_len S r k acc
    refine ⟨by simp; exact Nat.le_trans h1 (by omega), fun p h => ?_⟩
    have := h2 p h
    simp
    omega
abbrev wds (l : List Nat) : List (List Nat) := TL.spl [32] 0 [] l
abbrev rws2 (l : List Nat) : List (List Nat) := TL.spl [10] 0 [] l
theorem spl_lo {S l p : List Nat} (h : Lo l) (hp : p ∈ TL.spl S 0 [] l) : Lo p := fun c hc => (spl_mem S l 0 [] p hp c hc).elim (fun z => by cases z) (h c)
theorem spl_le {S l p : List Nat} (hp : p ∈ TL.spl S 0 [] l) : p.length ≤ l.length := by
  have := (spl_len S l 0 []).2 p hp
  simpa using this
theorem sl_dtx {k : LK} {w : List Nat} {L : List (List Nat)} : slop (.lst k (dtx (w :: L))) (some 1) none = .ok (.lst .own (dtx L)) := by
  show R.ok (D.lst .own (Mn.cutD (dtx (w :: L)) (some 1) none)) = _
  unfold Mn.cutD
  have e1 : HT.sIx (dtx (w :: L)).length 0 (some 1) = 1 := by
    rw [show (1 : Int) = ((1 : Nat) : Int) from rfl, HT.sIx_nat]
    simp
  have e2 : HT.sIx (dtx (w :: L)).length (dtx (w :: L)).length none = (dtx (w :: L)).length := rfl
  rw [e1, e2]
  simp
  exact List.take_of_length_le (by simp)

end K74

namespace K74
open PySem PySem.Spec L2 Mn
open PyProof.Rows hiding St
/-! ends shown -/
theorem sp_end_text {e : Int} (h0 : 0 ≤ e) (h1 : e < 1000000000) : aa__law_end_text [.int e] = .ok (.str (tx (endL e))) := by
  have s1 := str_nat (n := e / 2) (by omega) (by omega)
  have hl := TL.numL_len (n := (e / 2).toNat) (k := 9) (by omega) (by omega)
  have b1 : ∀ c, binop .add (.str (tx (TL.numL (e / 2).toNat))) (.str (tx [c])) = .ok (.str (tx (TL.numL (e / 2).toNat ++ [c]))) := fun c => bo_tx (by simp; omega)
  unfold endL
  by_cases c : e % 2 = 0
  · have i0 : ixop (.lst .own [.str (tx [60]), .str (tx [62])]) (.int 0) = .ok (.str (tx [60])) := rfl
    simp [aa__law_end_text, runS_val, ss__law_end_text, bo_fdiv, bo_mod, s1, l_lt, l_gt, i0, b1, c]
  · have c' : e % 2 = 1 := by omega
    have i0 : ixop (.lst .own [.str (tx [60]), .str (tx [62])]) (.int 1) = .ok (.str (tx [62])) := rfl
    simp [aa__law_end_text, runS_val, ss__law_end_text, bo_fdiv, bo_mod, s1, l_lt, l_gt, i0, b1, c']

end K74

namespace K74
open PySem PySem.Spec L2 Mn
open PyProof.Rows hiding St
/-! ### the law's draws -/
theorem sp_cell {ns : List Int} {k : Int} (h : 0 ≤ k) : ∃ c, aa__law_cell_at [.lst .ro (dl ns), .int k] = .ok (.int c) := by
  by_cases hk : k < ns.length
  · have e : ns[k.toNat]? = some (ns[k.toNat]'(by omega)) := List.getElem?_eq_getElem _
    refine ⟨ns[k.toNat]'(by omega), ?_⟩
    simp [aa__law_cell_at, runS, ss__law_cell_at, i1__law_cell_at, hk, ix_dl h e]
  · refine ⟨0, ?_⟩
    simp [aa__law_cell_at, runS, ss__law_cell_at, i1__law_cell_at, hk]
theorem sp_mix {c k : Int} (h : 0 ≤ k) (h2 : k ≤ 1000000) : ∃ m, 0 ≤ m ∧ aa__law_mix [.int c, .int k] = .ok (.int m) := by
  have nn : ∀ x y : Int, 0 < y → 0 ≤ x % y := fun x y hy => Int.emod_nonneg _ (by omega)
  by_cases hc : 1000000000000000000 ≤ c
  · obtain ⟨δ', e, c', hc', x, rfl⟩ := loopF_inv (f := body (look tb__law_mix) gam 1000 (.nm 3) b2__law_mix)
      (items := dl (rng 0 k.toNat)) (δ := [.int c, .any, .any, .any])
      (fun i δ => ∃ c' : Int, 0 ≤ c' ∧ ∃ x, δ = [.int c', .any, .any, x]) ⟨c, by omega, _, rfl⟩ (by
        rintro i d δ hd ⟨c', hc', x, rfl⟩
        obtain ⟨j, _, rfl⟩ := dl_get hd
        refine ⟨_, ?_, c' / 1000000, Int.ediv_nonneg hc' (by omega), .int j, rfl⟩
        simp [body_ap, b2__law_mix, bo_fdiv])
    refine ⟨c' % 1000000, nn _ _ (by omega), ?_⟩
    simp [aa__law_mix, runS, ss__law_mix, i1__law_mix, hc, it_r1 (show -1000000000 ≤ k by omega) (by omega), e, bo_mod]
  · have m1 := Int.emod_lt_of_pos ((c % 1000003 + k * k * 7919 + k) * 48271) (show (0 : Int) < 2147483629 by omega)
    have m0 := nn ((c % 1000003 + k * k * 7919 + k) * 48271) 2147483629 (by omega)
    obtain ⟨A, hA⟩ : ∃ A, (c % 1000003 + k * k * 7919 + k) * 48271 % 2147483629 = A := ⟨_, rfl⟩
    rw [hA] at m0 m1
    have m2 := Int.emod_lt_of_pos (A * A) (show (0 : Int) < 2147483587 by omega)
    have m3 := nn (A * A) 2147483587 (by omega)
    obtain ⟨B, hB⟩ : ∃ B, A * A % 2147483587 = B := ⟨_, rfl⟩
    rw [hB] at m2 m3
    refine ⟨B * (B + 2) % 2147483579 / 7, Int.ediv_nonneg (nn _ _ (by omega)) (by omega), ?_⟩
    simp [aa__law_mix, runS, ss__law_mix, i1__law_mix, hc, bo_mod, bo_mul (i := k) (j := k) (.inl (by omega)), bo_mul (j := 7919) (.inr (by omega)), bo_mul (j := 48271) (.inr (by omega)), hA, bo_mul (i := A) (.inl (by omega)), hB, bo_mul (i := B) (.inl (by omega)), bo_fdiv]

end K74

namespace K74
open PySem PySem.Spec L2 Mn
open PyProof.Rows hiding St
/-- a line of up to forty pieces and eighty joints -/
structure Ln (n : Int) (js : List (Int × Int)) : Prop where
  lo : 1 ≤ n
  hi : n ≤ 40
  len : js.length ≤ 80
  nd : js.Nodup
  ok : ∀ p, p ∈ js → 0 ≤ p.1 ∧ p.1 < p.2 ∧ p.2 < 2 * n ∧ p.1 / 2 ≠ p.2 / 2

end K74

namespace K74
open PySem PySem.Spec L2 Mn
open PyProof.Rows hiding St
/-! ### a line drawn anywhere in the script -/
theorem dps_take {js : List (Int × Int)} {k : Nat} : (dps js).take k = dps (js.take k) := by simp [dps, List.map_take]
theorem dps_drop {js : List (Int × Int)} {k : Nat} : (dps js).drop k = dps (js.drop k) := by simp [dps, List.map_drop]
theorem ins_perm' {α : Type} (l : List α) (x : α) (k : Nat) : (l.take k ++ x :: l.drop k).Perm (x :: l) := by
  have := List.perm_middle (a := x) (l₁ := l.take k) (l₂ := l.drop k)
  rwa [List.take_append_drop] at this
theorem Ln.ins {n : Int} {js : List (Int × Int)} (W : Ln n js) {A B : Int} (k : Nat) (a0 : 0 ≤ A) (a1 : A < 2 * n) (b0 : 0 ≤ B) (b1 : B < 2 * n) (h1 : A / 2 ≠ B / 2) (h2 : (min A B, max A B) ∉ js) (h3 : js.length < 80) : Ln n (js.take k ++ (min A B, max A B) :: js.drop k) := by
  have P := ins_perm' js (min A B, max A B) k
  refine ⟨W.lo, W.hi, by rw [P.length_eq]; simp; omega, P.nodup_iff.mpr (List.nodup_cons.mpr ⟨h2, W.nd⟩), fun p hp => ?_⟩
  rcases List.mem_cons.mp (P.mem_iff.mp hp) with rfl | hp
  · simp only [Int.min_def, Int.max_def]
    split <;> refine ⟨?_, ?_, ?_, ?_⟩ <;> omega
  · exact W.ok p hp
abbrev lX (ns : List Int) (st mo up h n : Int) (js : List (Int × Int)) (x7 x8 x9 x10 x11 x12 : D) : List D := [.lst .ro (dl ns), .int st, .int mo, .int up, .int h, .int n, .lst .own (dps js), x7, x8, x9, x10, x11, x12]
theorem sp_lineX {ns : List Int} {st mo up : Int} (h0 : 0 ≤ st) (h1 : 1 ≤ mo) (h2 : mo ≤ 40) (h3 : 0 ≤ up) (h4 : up ≤ 80) : ∃ n js, Ln n js ∧ n ≤ mo ∧ (js.length : Int) ≤ up ∧ aa__law_line [.lst .ro (dl ns), .int st, .int mo, .int up] = .ok (.tup [.int n, .lst .own (dps js)]) := by
  obtain ⟨c, ec⟩ := sp_cell (ns := ns) (k := st) h0
  obtain ⟨h, hh, eh⟩ := sp_mix (c := c) (k := 0) (by omega) (by omega)
  have n0 := Int.emod_nonneg h (show mo ≠ 0 by omega)
  have n1 := Int.emod_lt_of_pos h (show 0 < mo by omega)
  generalize hn : 1 + h % mo = n
  have r0 := Int.emod_nonneg (h / 64) (show up + 1 ≠ 0 by omega)
  have r1 := Int.emod_lt_of_pos (h / 64) (show 0 < up + 1 by omega)
  obtain ⟨δ1, l1, js, x7, x8, x9, x10, x11, x12, rfl, W, wl⟩ := loopF_inv (f := body (look tb__law_line) gam 1000 (.nm 7) b4__law_line) (items := dl (rng 0 (h / 64 % (up + 1)).toNat)) (δ := lX ns st mo up h n [] .any .any .any .any .any .any)
    (fun i δ => ∃ (js : List (Int × Int)) (x7 x8 x9 x10 x11 x12 : D), δ = lX ns st mo up h n js x7 x8 x9 x10 x11 x12 ∧ Ln n js ∧ js.length ≤ i)
    ⟨[], _, _, _, _, _, _, rfl, ⟨by omega, by omega, by simp, List.nodup_nil, fun p hp => (List.not_mem_nil hp).elim⟩, by simp⟩ (by
      rintro i d δ hd ⟨js, x7, x8, x9, x10, x11, x12, rfl, W, wl⟩
      obtain ⟨j, hj, rfl⟩ := dl_get hd
      have hi : i < (h / 64 % (up + 1)).toNat := by
        have := (List.getElem?_eq_some_iff.mp hj).1
        simpa using this
      rw [rng_get hi, Int.zero_add] at hj
      cases hj
      obtain ⟨ck, eck⟩ := sp_cell (ns := ns) (k := st + 1 + (i : Int) / 8) (by omega)
      obtain ⟨z, hz, ez⟩ := sp_mix (c := ck) (k := (i : Int) % 8) (by omega) (by omega)
      have a0 := Int.emod_nonneg z (show 2 * n ≠ 0 by omega)
      have a1 := Int.emod_lt_of_pos z (show (0 : Int) < 2 * n by omega)
      have y0 : 0 ≤ z / (2 * n) := Int.ediv_nonneg hz (by omega)
      generalize hA : z % (2 * n) = A at a0 a1
      generalize hy : z / (2 * n) = y at y0
      by_cases c1 : 1 < n
      · obtain ⟨f, f0, ef⟩ : ∃ f : Int, (f = 0 ∨ f = y / 4 % (n - 1)) ∧ ixop (.lst .own [.int 0, .int (y / 4 % (n - 1))]) (.int (y / 2 % 2)) = .ok (.int f) := by
          rcases (show y / 2 % 2 = 0 ∨ y / 2 % 2 = 1 by omega) with q | q
          · rw [q]; exact ⟨0, .inl rfl, rfl⟩
          · rw [q]; exact ⟨_, .inr rfl, rfl⟩
        have g0 := Int.emod_nonneg (y / 4) (show n - 1 ≠ 0 by omega)
        have g1 := Int.emod_lt_of_pos (y / 4) (show 0 < n - 1 by omega)
        have f1 : 0 ≤ f ∧ f < n - 1 := by rcases f0 with rfl | rfl <;> omega
        have b0 := Int.emod_nonneg (A / 2 + 1 + f) (show n ≠ 0 by omega)
        have b1 := Int.emod_lt_of_pos (A / 2 + 1 + f) (show 0 < n by omega)
        have hB : ∃ B, 2 * ((A / 2 + 1 + f) % n) + y % 2 = B := ⟨_, rfl⟩
        obtain ⟨B, hB⟩ := hB
        have hne : A / 2 ≠ B / 2 := by
          have e1 : B / 2 = (A / 2 + 1 + f) % n := by omega
          rw [e1]
          intro e2
          by_cases q : A / 2 + 1 + f < n
          · rw [Int.emod_eq_of_lt (by omega) q] at e2
            omega
          · have : (A / 2 + 1 + f) % n = A / 2 + 1 + f - n := by
              rw [show A / 2 + 1 + f = (A / 2 + 1 + f - n) + n * 1 by omega, Int.add_mul_emod_self_left, Int.emod_eq_of_lt (by omega) (by omega)]
              omega
            omega
        have bm : ∀ k : Int, binop .mul (.int 2) (.int k) = .ok (.int (2 * k)) := fun k => bo_mul (i := 2) (.inl (by omega))
        have m1 : binop .mod (.int z) (.int (2 * n)) = .ok (.int A) := by rw [bo_mod (by omega), hA]
        have m2 : binop .fdiv (.int z) (.int (2 * n)) = .ok (.int y) := by rw [bo_fdiv (by omega) (by omega), hy]
        have m3 : binop .mod (.int (y / 4)) (.int (n - 1)) = .ok (.int (y / 4 % (n - 1))) := bo_mod (by omega)
        have m4 : binop .mod (.int (A / 2 + 1 + f)) (.int n) = .ok (.int ((A / 2 + 1 + f) % n)) := bo_mod (by omega)
        by_cases c2 : (min A B, max A B) ∈ js
        · refine ⟨_, ?_, js, .int i, .int y, .int A, .int f, .int B, .tup [.int (min A B), .int (max A B)], rfl, W, by omega⟩
          simp [body_ap, b4__law_line, i8__law_line, i12__law_line, eck, ez, bo_fdiv, bo_mod, bm, m1, m2, m3, m4, ef, hB, c1, c2]
        · have lj : js.length < 80 := by omega
          have k0 := Int.emod_nonneg (y / 64) (show ((js.length : Int) + 1) ≠ 0 by omega)
          have k1 := Int.emod_lt_of_pos (y / 64) (show 0 < (js.length : Int) + 1 by omega)
          have m5 : binop .mod (.int (y / 64)) (.int ((js.length : Int) + 1)) = .ok (.int (y / 64 % ((js.length : Int) + 1))) := bo_mod (by omega)
          generalize y / 64 % ((js.length : Int) + 1) = kk at k0 k1 m5
          refine ⟨_, ?_, js.take kk.toNat ++ (min A B, max A B) :: js.drop kk.toNat, .int i, .int y, .int A, .int f, .int B, .any, rfl, W.ins _ a0 a1 (by omega) (by omega) hne c2 lj, ?_⟩
          · have e0 : dps (js.take kk.toNat) ++ (.tup [.int (min A B), .int (max A B)] :: dps (js.drop kk.toNat)) = dps (js.take kk.toNat ++ (min A B, max A B) :: js.drop kk.toNat) := by simp [dps, dP]
            simp [body_ap, b4__law_line, i8__law_line, i12__law_line, eck, ez, bo_fdiv, bo_mod, bm, m1, m2, m3, m4, m5, ef, hB, c1, c2, ownAt, getP, setP, dps_take, dps_drop, e0, k0, show js.length < 16777216 by omega, show kk < 9223372036854775808 by omega]
          · rw [(ins_perm' js (min A B, max A B) kk.toNat).length_eq]
            simp
            omega
      · refine ⟨_, ?_, js, .int i, .int y, .int A, x10, x11, x12, rfl, W, by omega⟩
        have bm : ∀ k : Int, binop .mul (.int 2) (.int k) = .ok (.int (2 * k)) := fun k => bo_mul (i := 2) (.inl (by omega))
        have m1 : binop .mod (.int z) (.int (2 * n)) = .ok (.int A) := by rw [bo_mod (by omega), hA]
        have m2 : binop .fdiv (.int z) (.int (2 * n)) = .ok (.int y) := by rw [bo_fdiv (by omega) (by omega), hy]
        simp [body_ap, b4__law_line, i8__law_line, eck, ez, bo_fdiv, bo_mod, bm, m1, m2, c1])
  rw [show (dl (rng 0 (h / 64 % (up + 1)).toNat)).length = (h / 64 % (up + 1)).toNat by simp] at wl
  have rr := it_r1 (show -1000000000 ≤ h / 64 % (up + 1) by omega) (by omega)
  have m6 : binop .mod (.int (h / 64)) (.int (up + 1)) = .ok (.int (h / 64 % (up + 1))) := bo_mod (by omega)
  have m7 : binop .mod (.int h) (.int mo) = .ok (.int (h % mo)) := bo_mod (by omega)
  refine ⟨n, js, W, by omega, by omega, ?_⟩
  unfold lX at l1
  rw [dps_nil] at l1
  simp [aa__law_line, runS_val, ss__law_line, ec, eh, bo_fdiv, m6, m7, hn, rr, l1]

end K74

namespace K74
open PySem PySem.Spec L2 Mn
open PyProof.Rows hiding St
/-! ### ends -/
def oth (e : Int) : Int := e + 1 - 2 * (e % 2)
theorem sp_other {e : Int} : aa__law_other [.int e] = .ok (.int (oth e)) := by
  have h1 : e + 1 - e % 2 * 2 = oth e := by unfold oth; omega
  simp [aa__law_other, runS, ss__law_other, bo_mod, bo_mul (j := 2) (.inr (by omega)), h1]
/-- what is in a joint with e -/
def near (js : List (Int × Int)) (e : Int) : List Int := sortI ((js.filter (fun p => p.1 == e)).map (·.2) ++ (js.filter (fun p => p.2 == e)).map (·.1))
theorem near_len (js : List (Int × Int)) (e : Int) : ((js.filter (fun p => p.1 == e)).map (·.2)).length + ((js.filter (fun p => p.2 == e)).map (·.1)).length ≤ 2 * js.length := by
  have h1 := List.length_filter_le (fun p : Int × Int => p.1 == e) js
  have h2 := List.length_filter_le (fun p : Int × Int => p.2 == e) js
  rw [List.length_map, List.length_map]
  omega
theorem take_one {α : Type} {l : List α} {i : Nat} {x : α} (h : l[i]? = some x) : l.take (i + 1) = l.take i ++ [x] := by
  obtain ⟨hi, e⟩ := List.getElem?_eq_some_iff.mp h
  rw [List.take_succ_eq_append_getElem hi, e]

end K74

namespace K74
open PySem PySem.Spec L2 Mn
open PyProof.Rows hiding St
/-! ### trains -/
theorem near_mem {js : List (Int × Int)} {e x : Int} : x ∈ near js e ↔ (e, x) ∈ js ∨ (x, e) ∈ js := by
  unfold near
  rw [(sortI_perm _).mem_iff, List.mem_append, List.mem_map, List.mem_map]
  constructor
  · rintro (⟨p, hp, rfl⟩ | ⟨p, hp, rfl⟩)
    · have h := List.mem_filter.mp hp
      have e1 : p.1 = e := by simpa using h.2
      subst e1
      exact .inl h.1
    · have h := List.mem_filter.mp hp
      have e1 : p.2 = e := by simpa using h.2
      subst e1
      exact .inr h.1
  · rintro (h | h)
    · exact .inl ⟨(e, x), List.mem_filter.mpr ⟨h, by simp⟩, rfl⟩
    · exact .inr ⟨(x, e), List.mem_filter.mpr ⟨h, by simp⟩, rfl⟩
theorem near_size (js : List (Int × Int)) (e : Int) : (near js e).length ≤ 2 * js.length := by
  unfold near
  rw [(sortI_perm _).length_eq, List.length_append]
  exact near_len js e
theorem Ln.near {n : Int} {js : List (Int × Int)} (W : Ln n js) {e x : Int} (h : x ∈ K74.near js e) : 0 ≤ x ∧ x < 2 * n ∧ x / 2 ≠ e / 2 := by
  rcases near_mem.mp h with h | h
  · have := W.ok _ h
    simp only at this
    omega
  · have := W.ok _ h
    simp only at this
    omega
/-- the pieces of its ends -/
def pcs (t : List Int) : List Int := t.map fun e => e / 2
@[simp] theorem pcs_len {t : List Int} : (pcs t).length = t.length := by simp [pcs]
/-- a train of the line -/
structure Tr (n : Int) (js : List (Int × Int)) (t : List Int) : Prop where
  ne : t ≠ []
  rg : ∀ e, e ∈ t → 0 ≤ e ∧ e < 2 * n
  nd : (pcs t).Nodup
  go : ∀ (i : Nat) (x y : Int), t[i]? = some x → t[i + 1]? = some y → y ∈ near js (oth x)
theorem Tr.more {n : Int} {js : List (Int × Int)} {t0 : List Int} {x y : Int} (W : Ln n js) (T : Tr n js (t0 ++ [x])) (h : y ∈ near js (oth x)) (h2 : y / 2 ∉ pcs (t0 ++ [x])) : Tr n js (t0 ++ [x] ++ [y]) := by
  refine ⟨by simp, fun e he => ?_, ?_, fun i a b ha hb => ?_⟩
  · rcases List.mem_append.mp he with he | he
    · exact T.rg e he
    · rw [List.mem_singleton.mp he]
      have := W.near h
      omega
  · show (((t0 ++ [x]) ++ [y]).map fun e => e / 2).Nodup
    rw [List.map_append]
    exact (List.perm_append_comm (l₁ := (t0 ++ [x]).map fun e => e / 2) (l₂ := [y].map fun e => e / 2)).nodup_iff.mpr (List.nodup_cons.mpr ⟨h2, T.nd⟩)
  · by_cases c : i + 1 < (t0 ++ [x]).length
    · rw [List.getElem?_append_left c] at hb
      rw [List.getElem?_append_left (by omega)] at ha
      exact T.go i a b ha hb
    · have hl : (t0 ++ [x]).length = t0.length + 1 := by simp
      have hi := (List.getElem?_eq_some_iff.mp hb).1
      simp at hi
      have ei : i = t0.length := by omega
      subst ei
      rw [List.getElem?_append_right (by omega), hl, Nat.sub_self] at hb
      rw [List.getElem?_append_left (by omega), List.getElem?_append_right (Nat.le_refl _), Nat.sub_self] at ha
      simp at ha hb
      subst ha hb
      exact h

end K74

namespace K74
open PySem PySem.Spec L2 Mn
open PyProof.Rows hiding St
def frees (js : List (Int × Int)) (t : List Int) (e : Int) : List Int := (near js e).filter fun y => !decide (y / 2 ∈ pcs t)
theorem rng_rises (n : Nat) : (rng 0 n).Pairwise (· < ·) := by
  refine List.pairwise_iff_getElem.mpr fun i j hi hj hij => ?_
  have e1 : (rng 0 n)[i]? = some (0 + (i : Int)) := rng_get (by simpa using hi)
  have e2 : (rng 0 n)[j]? = some (0 + (j : Int)) := rng_get (by simpa using hj)
  rw [List.getElem?_eq_getElem hi] at e1
  rw [List.getElem?_eq_getElem hj] at e2
  rw [Option.some.inj e1, Option.some.inj e2]
  omega
theorem Tr.one {n e : Int} {js : List (Int × Int)} (h0 : 0 ≤ e) (h1 : e < 2 * n) : Tr n js [e] :=
  ⟨by simp, fun x hx => by rw [List.mem_singleton.mp hx]; exact ⟨h0, h1⟩, by simp [pcs], fun i x y hx hy => by simp at hy⟩

end K74

namespace K74
open PySem PySem.Spec L2 Mn
open PyProof.Rows hiding St
/-! ### moves -/
theorem ev_s1 {Φ : Fn} {γ : Gn} {δ : List D} {a : M} {i : Int} : ev Φ γ (.slice a (.int i) .nil) δ = (ev Φ γ a δ >>= fun x => slop x (some i) none) := id rfl
theorem ev_sm {Φ : Fn} {γ : Gn} {δ : List D} {a : M} {i : Int} : ev Φ γ (.slice a .nil (.neg (.int i))) δ = (ev Φ γ a δ >>= fun x => slop x none (some (-i))) := id rfl
theorem ev_sb {Φ : Fn} {γ : Gn} {δ : List D} {a b c : M} {o : Bop} : ev Φ γ (.slice a .nil (.bin o b c)) δ = (ev Φ γ a δ >>= fun x => ev Φ γ (.bin o b c) δ >>= fun l => intOf l >>= fun l => slop x none (some l)) := id rfl

def em (k : LK) (m : (Str × Int) × List Int) : D := .tup [.tup [.str m.1.1, .int m.1.2], .lst k (dl m.2)]
def ons (js : List (Int × Int)) (t : List Int) (x : Int) : List ((Str × Int) × List Int) := (frees js t (oth x)).map fun e => (("on", e), t.drop 1 ++ [e])
def bcks (js : List (Int × Int)) (t : List Int) (y : Int) : List ((Str × Int) × List Int) := (frees js t y).map fun e => (("back", e), oth e :: t.dropLast)
theorem frees_len {n e : Int} {js : List (Int × Int)} {t : List Int} (W : Ln n js) : (frees js t e).length ≤ 160 := by
  have := near_size js e
  have := W.len
  have := List.length_filter_le (fun y => !decide (y / 2 ∈ pcs t)) (near js e)
  unfold frees
  omega

end K74

namespace K74
open PySem PySem.Spec L2 Mn
open PyProof.Rows hiding St
/-! ### draws of trains and runs -/
theorem isin_tup {x : D} {ds : List D} : cmpop .isin x (.tup ds) = cmpop .isin x (.lst .frz ds) := rfl
theorem near_alt {js : List (Int × Int)} {e : Int} (h : ∀ p, p ∈ js → p.1 ≠ p.2) : sortI ((js.filter fun p => decide (e = p.1) || decide (e = p.2)).map fun p => p.1 + p.2 - e) = near js e := by
  have P : ((js.filter fun p => decide (e = p.1) || decide (e = p.2)).map fun p => p.1 + p.2 - e).Perm ((js.filter (fun p => p.1 == e)).map (·.2) ++ (js.filter (fun p => p.2 == e)).map (·.1)) := by
    induction js with
    | nil => simp
    | cons p js ih =>
      have ih := ih fun q hq => h q (List.mem_cons_of_mem _ hq)
      have hp := h p List.mem_cons_self
      simp only [List.filter_cons]
      by_cases c1 : p.1 = e
      · have c2 : ¬ p.2 = e := fun z => hp (by omega)
        have e1 : (decide (e = p.1) || decide (e = p.2)) = true := by simp [c1]
        have e2 : (p.1 == e) = true := by simpa using c1
        have e3 : (p.2 == e) = false := by simpa using c2
        simp only [e1, e2, e3, if_true, Bool.false_eq_true, if_false, List.map_cons, List.cons_append]
        rw [show p.1 + p.2 - e = p.2 by omega]
        exact ih.cons _
      · by_cases c2 : p.2 = e
        · have e1 : (decide (e = p.1) || decide (e = p.2)) = true := by simp [c2]
          have e2 : (p.1 == e) = false := by simpa using c1
          have e3 : (p.2 == e) = true := by simpa using c2
          simp only [e1, e2, e3, if_true, Bool.false_eq_true, if_false, List.map_cons]
          rw [show p.1 + p.2 - e = p.1 by omega]
          exact (ih.cons _).trans List.perm_middle.symm
        · have e1 : (decide (e = p.1) || decide (e = p.2)) = false := by simp; omega
          have e2 : (p.1 == e) = false := by simpa using c1
          have e3 : (p.2 == e) = false := by simpa using c2
          simp only [e1, e2, e3, Bool.false_eq_true, if_false]
          exact ih
  unfold near
  exact sorted_one (((sortI_perm _).trans P).trans (sortI_perm _).symm) (sortI_sorted _) (sortI_sorted _)
theorem sp_nearX {n : Int} {js : List (Int × Int)} (W : Ln n js) {e : Int} : aa__law_joined [.tup [.int n, .lst .frz (dps js)], .int e] = .ok (.lst .own (dl (near js e))) := by
  have hl : js.length < 16777216 := by have := W.len; omega
  simp [aa__law_joined, runS, ss__law_joined, hl]
  rw [cPI (fun p => decide (e = p.1) || decide (e = p.2)) (fun p => p.1 + p.2 - e)]
  · simp
    rw [near_alt]
    exact fun p hp => by have := W.ok p hp; omega
  · intro p hp
    have i1 := in_ints (k := .frz) (i := e) (l := [p.1, p.2])
    have i2 : cmpop .isin (.int e) (.tup [.int p.1, .int p.2]) = .ok (.bl (decide (e = p.1) || decide (e = p.2))) := by
      rw [isin_tup]
      rw [show [D.int p.1, D.int p.2] = dl [p.1, p.2] from rfl, i1]
      simp
    simp [turn, i2]
    split <;> rfl

end K74

namespace K74
open PySem PySem.Spec L2 Mn
open PyProof.Rows hiding St
/-! ### told lists -/
theorem oth_oth (e : Int) : oth (oth e) = e := by unfold oth; omega
/-- ends a list has -/
theorem two_ends {t : List Int} (h : t ≠ []) : ∃ t0 x y t1, t = t0 ++ [x] ∧ t = y :: t1 := by
  cases t with
  | nil => exact absurd rfl h
  | cons y t1 => exact ⟨(y :: t1).dropLast, (y :: t1).getLast (by simp), y, t1, (List.dropLast_concat_getLast (by simp)).symm, rfl⟩

end K74

namespace K74
open PySem PySem.Spec L2 Mn
open PyProof.Rows hiding St
/-! ### the law's own moves -/
theorem sp_law_moves {n x y : Int} {js : List (Int × Int)} {t0 t1 : List Int} {t : List Int} (W : Ln n js) (h : t.length < 1000) (hx : t = t0 ++ [x]) (hy : t = y :: t1) :
    aa__law_moves [.tup [.int n, .lst .frz (dps js)], .lst .frz (dl t)] = .ok (.lst .own ((ons js t x ++ bcks js t y).map (em .own))) := by
  have wl := W.len
  have hne : t ≠ [] := by rw [hy]; simp
  have ix0 : ixop (.lst .frz (dl t)) (.int 0) = .ok (.int y) := ix_dl (by omega) (by rw [hy]; rfl)
  have ixl : ixop (.lst .frz (dl t)) (.int (-1)) = .ok (.int x) := by rw [hx]; exact ix_last
  have n1 := near_size js (oth x)
  have n2 := near_size js y
  have fl : ∀ (l : List Int), (l.filter fun z => !decide (z / 2 ∈ pcs t)).length ≤ l.length := fun l => List.length_filter_le _ _
  obtain ⟨δ1, l1, x4, rfl⟩ := loopF_inv (f := body (look tb__law_moves) gam 1000 (.nm 4) b3__law_moves) (items := dl (near js (oth x))) (δ := [.tup [.int n, .lst .frz (dps js)], .lst .frz (dl t), .lst .own (dl (pcs t)), .lst .own [], .any])
    (fun i δ => ∃ x4 : D, δ = [.tup [.int n, .lst .frz (dps js)], .lst .frz (dl t), .lst .own (dl (pcs t)), .lst .own ((((near js (oth x)).take i).filter fun z => !decide (z / 2 ∈ pcs t)).map fun e => em .own (("on", e), t.drop 1 ++ [e])), x4]) ⟨.any, by simp⟩ (by
      rintro i d δ hd ⟨x4, rfl⟩
      obtain ⟨e, he, rfl⟩ := dl_get hd
      have hi := (List.getElem?_eq_some_iff.mp he).1
      have lt := fl ((near js (oth x)).take i)
      rw [List.length_take] at lt
      refine ⟨_, ?_, .int e, rfl⟩
      rw [take_one he, List.filter_append, List.map_append]
      by_cases c : e / 2 ∈ pcs t
      · simp [body_ap, b3__law_moves, i4__law_moves, bo_fdiv, c]
      · simp [body_ap, b3__law_moves, i4__law_moves, bo_fdiv, c, ownAt, getP, setP, ev_s1, sl_1 hne]
        rw [bo_app (by simp; omega)]
        simp [em, show ((List.take i (near js (oth x))).filter fun z => !decide (z / 2 ∈ pcs t)).length < 16777216 by omega])
  obtain ⟨δ2, l2, y4, rfl⟩ := loopF_inv (f := body (look tb__law_moves) gam 1000 (.nm 4) b6__law_moves) (items := dl (near js y)) (δ := [.tup [.int n, .lst .frz (dps js)], .lst .frz (dl t), .lst .own (dl (pcs t)), .lst .own ((ons js t x).map (em .own)), x4])
    (fun i δ => ∃ x4 : D, δ = [.tup [.int n, .lst .frz (dps js)], .lst .frz (dl t), .lst .own (dl (pcs t)), .lst .own ((ons js t x).map (em .own) ++ (((near js y).take i).filter fun z => !decide (z / 2 ∈ pcs t)).map fun e => em .own (("back", e), oth e :: t.dropLast)), x4]) ⟨x4, by simp⟩ (by
      rintro i d δ hd ⟨x4, rfl⟩
      obtain ⟨e, he, rfl⟩ := dl_get hd
      have hi := (List.getElem?_eq_some_iff.mp he).1
      have lt := fl ((near js y).take i)
      rw [List.length_take] at lt
      have lo := frees_len (n := n) (t := t) (e := oth x) W
      have ll : (ons js t x).length ≤ 160 := by simp [ons]; omega
      have cc : D.int (oth e) :: dl t.dropLast = dl (oth e :: t.dropLast) := rfl
      refine ⟨_, ?_, .int e, rfl⟩
      rw [take_one he, List.filter_append, List.map_append, ← List.append_assoc]
      by_cases c : e / 2 ∈ pcs t
      · simp [body_ap, b6__law_moves, i7__law_moves, bo_fdiv, c]
      · simp [body_ap, b6__law_moves, i7__law_moves, bo_fdiv, c, ownAt, getP, setP, ev_sm, sl_m hne (.inl rfl), sp_other]
        rw [bo_app (by simp; omega)]
        simp [em, cc, show (ons js t x).length + ((List.take i (near js y)).filter fun z => !decide (z / 2 ∈ pcs t)).length < 16777216 by omega])
  rw [dl_len, List.take_length] at l1
  rw [dl_len, List.take_length] at l2
  have e1 : ((near js (oth x)).filter fun z => !decide (z / 2 ∈ pcs t)).map (fun e => em .own (("on", e), t.drop 1 ++ [e])) = (ons js t x).map (em .own) := by simp [ons, frees]
  have e2 : ((near js y).filter fun z => !decide (z / 2 ∈ pcs t)).map (fun e => em .own (("back", e), oth e :: t.dropLast)) = (bcks js t y).map (em .own) := by simp [bcks, frees]
  rw [e1] at l1
  rw [e2, ← List.map_append] at l2
  simp [aa__law_moves, runS, ss__law_moves, show t.length < 16777216 by omega]
  rw [cII' (fun e => e / 2), show t.map (fun e => e / 2) = pcs t from rfl]
  · simp [ixl, ix0, sp_other, sp_nearX W, l1, l2]
  · intro z hz
    simp [turn, bo_fdiv]

end K74

namespace K74
open PySem PySem.Spec L2 Mn
open PyProof.Rows hiding St
/-! ### moves -/
theorem okS_on : okS "on" := by decide +kernel
theorem okS_back : okS "back" := by decide +kernel
theorem okS_move : okS "move" := by decide +kernel
theorem okS_told : okS "told" := by decide +kernel
def mvD (m : Str × Int) : D := .tup [.str m.1, .int m.2]
@[simp] theorem rd_mvD {m : Str × Int} : rd (mvD m) = .ok (mvD m) := rfl
@[simp] theorem frz_mvD {m : Str × Int} : (mvD m).frz = mvD m := by simp [mvD]
@[simp] theorem pur_mvD {m : Str × Int} : (mvD m).pur = true := by simp [mvD]
@[simp] theorem flat_mvD {m : Str × Int} : (mvD m).flat = true := by simp [mvD]
/-- the moves of a train -/
def mvs (js : List (Int × Int)) (t : List Int) : List ((Str × Int) × List Int) := ons js t (t.getLast?.getD 0) ++ bcks js t (t.head?.getD 0)
theorem mvs_is {js : List (Int × Int)} {t t0 t1 : List Int} {x y : Int} (hx : t = t0 ++ [x]) (hy : t = y :: t1) : ons js t x ++ bcks js t y = mvs js t := by
  unfold mvs
  rw [show t.getLast?.getD 0 = x by rw [hx]; simp, show t.head?.getD 0 = y by rw [hy]; simp]
theorem mvs_ok {js : List (Int × Int)} {t : List Int} {m : (Str × Int) × List Int} (h : m ∈ mvs js t) : okS m.1.1 := by
  rcases List.mem_append.mp h with h | h
  · obtain ⟨e, _, rfl⟩ := List.mem_map.mp h
    exact okS_on
  · obtain ⟨e, _, rfl⟩ := List.mem_map.mp h
    exact okS_back
theorem mvs_len {n : Int} {js : List (Int × Int)} {t : List Int} (W : Ln n js) : (mvs js t).length ≤ 320 := by
  have := frees_len (t := t) (e := oth (t.getLast?.getD 0)) W
  have := frees_len (t := t) (e := t.head?.getD 0) W
  simp [mvs, ons, bcks]
  omega
theorem mvs_size {js : List (Int × Int)} {t : List Int} {m : (Str × Int) × List Int} (hne : t ≠ []) (h : m ∈ mvs js t) : m.2.length = t.length := by
  have hp : 0 < t.length := List.length_pos_iff.mpr hne
  rcases List.mem_append.mp h with h | h
  · obtain ⟨e, _, rfl⟩ := List.mem_map.mp h
    simp; omega
  · obtain ⟨e, _, rfl⟩ := List.mem_map.mp h
    simp; omega
theorem sp_lmo {n : Int} {js : List (Int × Int)} {t : List Int} (W : Ln n js) (h : t.length < 1000) (hne : t ≠ []) : aa__law_moves [.tup [.int n, .lst .frz (dps js)], .lst .frz (dl t)] = .ok (.lst .own ((mvs js t).map (em .own))) := by
  obtain ⟨t0, x, y, t1, hx, hy⟩ := two_ends hne
  have m1 := sp_law_moves W h hx hy
  rw [mvs_is hx hy] at m1
  exact m1
theorem em_mvD {k : LK} {q : (Str × Int) × List Int} : em k q = .tup [mvD q.1, .lst k (dl q.2)] := rfl

end K74

namespace K74
open PySem PySem.Spec L2 Mn
open PyProof.Rows hiding St
/-! ### moves in a list -/
def mls (r : List (Str × Int)) : List D := r.map mvD
@[simp] theorem mls_len {r : List (Str × Int)} : (mls r).length = r.length := by simp [mls]
theorem mls_nil : mls [] = [] := rfl
theorem mls_app {r s : List (Str × Int)} : mls r ++ mls s = mls (r ++ s) := by simp [mls]
theorem mls_one {r : List (Str × Int)} {m : Str × Int} : mls r ++ [mvD m] = mls (r ++ [m]) := by simp [mls]
@[simp] theorem frzs_mls {r : List (Str × Int)} : D.frzs (mls r) = mls r := by
  rw [D.frzs_eq, mls, List.map_map]
  exact List.map_congr_left fun m _ => by simp
@[simp] theorem purs_mls {r : List (Str × Int)} : D.purs (mls r) = true := by
  rw [D.purs_eq]
  simp [mls]
theorem mls_get {r : List (Str × Int)} {i : Nat} {d : D} (h : (mls r)[i]? = some d) : ∃ m, r[i]? = some m ∧ d = mvD m := by
  unfold mls at h
  rw [List.getElem?_map] at h
  cases e : r[i]? with
  | none => rw [e] at h; cases h
  | some m => rw [e] at h; cases h; exact ⟨m, rfl, rfl⟩
def pyV (m : Str × Int) : PyData := .tuple [.str m.1, .int m.2]
theorem pys_mls : ∀ r : List (Str × Int), D.toPys (mls r) = some (r.map pyV)
  | [] => by simp [mls, D.toPys]
  | m :: r => by
    have := pys_mls r
    unfold mls at this ⊢
    simp [D.toPys, D.toPy, mvD, pyV, this]
theorem cl_pyV : ∀ r : List (Str × Int), (∀ m, m ∈ r → okS m.1) → PyData.canLayAll0 (r.map pyV) = true
  | [], _ => by simp [PyData.canLayAll0]
  | m :: r, h => by
    have h1 : PyData.strOk m.1 = true := h m List.mem_cons_self
    simp [PyData.canLayAll0, PyData.canLay0, pyV, h1, cl_pyV r fun x hx => h x (List.mem_cons_of_mem _ hx)]
theorem dep_pyV : ∀ r : List (Str × Int), PyData.depthAll (r.map pyV) ≤ 2
  | [] => by simp [PyData.depthAll]
  | m :: r => by
    have := dep_pyV r
    simp [PyData.depthAll, PyData.depth, pyV]
    omega
theorem sh_pyV {r : List (Str × Int)} (h : ∀ m, m ∈ r → okS m.1) : SeqAt.shaped (.list (r.map pyV)) = true := by
  have := dep_pyV r
  simp [SeqAt.shaped, PyData.canLay0, cl_pyV r h, PyData.depth]
  omega
theorem py_mls {k : LK} (r : List (Str × Int)) : (D.lst k (mls r)).toPy = some (.list (r.map pyV)) := by simp [D.toPy, pys_mls]
theorem ne_mls {k k' : LK} {r : List (Str × Int)} (h : ∀ m, m ∈ r → okS m.1) : cmpop .ne (.lst k (mls r)) (.lst k' (mls r)) = .ok (.bl false) := co_neS (py_mls r) (py_mls r) (sh_pyV h)
theorem eq_mls_nil {k k' : LK} {r : List (Str × Int)} (h : ∀ m, m ∈ r → okS m.1) : cmpop .eq (.lst k (mls r)) (.lst k' []) = .ok (.bl (decide (r = []))) := by
  rw [co_eq' (x := .list (r.map pyV)) (y := .list ([].map pyV)) (py_mls r) (by simp [D.toPy, D.toPys]) (sh_pyV h) (sh_pyV (r := []) (by simp))]
  cases r <;> simp [PyData.eqv, PyData.eqvAll]
/-! ### the trains of a run -/

end K74

namespace K74
open PySem PySem.Spec L2 Mn
open PyProof.Rows hiding St
/-! ### moves compared -/
def pyM (m : (Str × Int) × List Int) : PyData := .tuple [.tuple [.str m.1.1, .int m.1.2], .list (m.2.map PyData.int)]
theorem pys_em {k : LK} : ∀ M : List ((Str × Int) × List Int), D.toPys (M.map (em k)) = some (M.map pyM)
  | [] => by simp [D.toPys]
  | m :: r => by simp [D.toPys, D.toPy, em, pys_int, pyM, pys_em r]
theorem cl_pyM : ∀ M : List ((Str × Int) × List Int), (∀ m, m ∈ M → PyData.strOk m.1.1 = true) → PyData.canLayAll0 (M.map pyM) = true
  | [], _ => by simp [PyData.canLayAll0]
  | m :: r, h => by
    have h1 := h m List.mem_cons_self
    simp [PyData.canLayAll0, PyData.canLay0, pyM, cl_int, h1, cl_pyM r fun x hx => h x (List.mem_cons_of_mem _ hx)]
theorem dep_pyM : ∀ M : List ((Str × Int) × List Int), PyData.depthAll (M.map pyM) ≤ 3
  | [] => by simp [PyData.depthAll]
  | m :: r => by
    have := dep_pyM r
    have := dep_int m.2
    simp [PyData.depthAll, PyData.depth, pyM]
    omega
theorem mv_ok {js : List (Int × Int)} {t : List Int} {x y : Int} : ∀ m, m ∈ ons js t x ++ bcks js t y → PyData.strOk m.1.1 = true := by
  intro m hm
  rcases List.mem_append.mp hm with h | h
  · obtain ⟨e, _, rfl⟩ := List.mem_map.mp h
    show PyData.strOk ("on" : Str) = true
    decide +kernel
  · obtain ⟨e, _, rfl⟩ := List.mem_map.mp h
    show PyData.strOk ("back" : Str) = true
    decide +kernel
theorem sh_moves {M : List ((Str × Int) × List Int)} (h : ∀ m, m ∈ M → PyData.strOk m.1.1 = true) : SeqAt.shaped (.list (M.map pyM)) = true := by
  have := dep_pyM M
  simp [SeqAt.shaped, PyData.canLay0, cl_pyM M h, PyData.depth]
  omega
theorem ne_moves {k k' : LK} {M : List ((Str × Int) × List Int)} {q q' : LK} (h : ∀ m, m ∈ M → PyData.strOk m.1.1 = true) : cmpop .ne (.lst k (M.map (em q))) (.lst k' (M.map (em q'))) = .ok (.bl false) :=
  co_neS (x := .list (M.map pyM)) (by simp [D.toPy, pys_em]) (by simp [D.toPy, pys_em]) (sh_moves h)
@[simp] theorem frzs_em {M : List ((Str × Int) × List Int)} : D.frzs (M.map (em .own)) = M.map (em .frz) := by
  rw [D.frzs_eq, List.map_map]
  exact List.map_congr_left fun m _ => by simp [em]
@[simp] theorem purs_em {M : List ((Str × Int) × List Int)} : D.purs (M.map (em .own)) = true := by
  rw [D.purs_eq]
  simp [em]

end K74

namespace K74
open PySem PySem.Spec L2 Mn
open PyProof.Rows hiding St
/-! ### a train and a run drawn -/
theorem sp_trainX {n m most : Int} {js : List (Int × Int)} (W : Ln n js) (hm : 0 ≤ m) (h1 : 1 ≤ most) (h2 : most ≤ 1000) :
    ∃ t, Tr n js t ∧ (t.length : Int) ≤ most ∧ aa__law_train [.tup [.int n, .lst .frz (dps js)], .int m, .int most] = .ok (.lst .own (dl t)) := by
  have w1 := W.lo
  have w2 := W.hi
  have wl := W.len
  have a0 := Int.emod_nonneg m (show 2 * n ≠ 0 by omega)
  have a1 := Int.emod_lt_of_pos m (show (0 : Int) < 2 * n by omega)
  have r0 := Int.emod_nonneg (m / 100) (show most ≠ 0 by omega)
  have r1 := Int.emod_lt_of_pos (m / 100) (show 0 < most by omega)
  have T0 : Tr n js ([] ++ [m % (2 * n)]) := ⟨by simp, fun e he => by simp at he; subst he; exact ⟨a0, a1⟩, by simp [pcs], fun i x y hx hy => by simp at hy⟩
  obtain ⟨δ1, l1, t0, x, x4, x5, x6, rfl, T, tl⟩ := loopF_inv (f := body (look tb__law_train) gam 1000 (.nm 4) b2__law_train) (items := dl (rng 0 (m / 100 % most).toNat)) (δ := [.tup [.int n, .lst .frz (dps js)], .int m, .int most, .lst .own [.int (m % (2 * n))], .any, .any, .any, .any])
    (fun i δ => ∃ (t0 : List Int) (x : Int) (x4 x5 x6 : D), δ = [.tup [.int n, .lst .frz (dps js)], .int m, .int most, .lst .own (dl (t0 ++ [x])), x4, x5, x6, .any] ∧ Tr n js (t0 ++ [x]) ∧ t0.length ≤ i) ⟨[], _, _, _, _, rfl, T0, Nat.le_refl _⟩ (by
      rintro i d δ hd ⟨t0, x, x4, x5, x6, rfl, T, tl⟩
      obtain ⟨j, hj, rfl⟩ := dl_get hd
      have hi : i < (m / 100 % most).toNat := by
        have := (List.getElem?_eq_some_iff.mp hj).1
        simpa using this
      rw [rng_get hi, Int.zero_add] at hj
      cases hj
      obtain ⟨z, hz, ez⟩ := sp_mix (c := m) (k := 3 + (i : Int)) (by omega) (by omega)
      have ns := near_size js (oth x)
      obtain ⟨S, hS⟩ : ∃ S, (near js (oth x)).filter (fun e => !decide (e / 2 ∈ pcs (t0 ++ [x]))) = S := ⟨_, rfl⟩
      have hSl : S.length ≤ 160 := by
        rw [← hS]
        have := List.length_filter_le (fun e => !decide (e / 2 ∈ pcs (t0 ++ [x]))) (near js (oth x))
        omega
      have ex : body (look tb__law_train) gam 1000 (.nm 4) b2__law_train (.int (i : Int)) [.tup [.int n, .lst .frz (dps js)], .int m, .int most, .lst .own (dl (t0 ++ [x])), x4, x5, x6, .any] =
          exec (look tb__law_train) gam 1000 i5__law_train [.tup [.int n, .lst .frz (dps js)], .int m, .int most, .lst .own (dl (t0 ++ [x])), .int (i : Int), .lst .own (dl (pcs (t0 ++ [x]))), .lst .own (dl S), .any] := by
        simp only [body_ap, b2__law_train, asg_nm, of_ok, thn_next, ex_cons]
        simp
        rw [cII' (fun e => e / 2), show (t0 ++ [x]).map (fun e => e / 2) = pcs (t0 ++ [x]) from rfl]
        · simp [show t0.length + 1 < 16777216 by omega, sp_other, sp_nearX W, ix_last, show (near js (oth x)).length < 16777216 by omega]
          rw [cII (fun e => !decide (e / 2 ∈ pcs (t0 ++ [x]))) (fun e => e), List.map_id', hS]
          · simp
            cases exec (look tb__law_train) gam 1000 i5__law_train [.tup [.int n, .lst .frz (dps js)], .int m, .int most, .lst .own (dl (t0 ++ [x])), .int (i : Int), .lst .own (dl (pcs (t0 ++ [x]))), .lst .own (dl S), .any] <;> rfl
          · intro y hy
            simp [turn, bo_fdiv]
            split <;> rfl
        · intro y hy
          simp [turn, bo_fdiv]
      by_cases hSe : S = []
      · refine ⟨_, ?_, t0, x, .int i, .lst .own (dl (pcs (t0 ++ [x]))), .lst .own (dl S), rfl, T, by omega⟩
        rw [ex]
        simp [i5__law_train, hSe, ne_nil]
      · have hp : 0 < S.length := List.length_pos_iff.mpr hSe
        have q0 := Int.emod_nonneg z (show (S.length : Int) ≠ 0 by omega)
        have q1 := Int.emod_lt_of_pos z (show (0 : Int) < S.length by omega)
        have hy : S[(z % (S.length : Int)).toNat]? = some (S[(z % (S.length : Int)).toNat]'(by omega)) := List.getElem?_eq_getElem _
        generalize S[(z % (S.length : Int)).toNat]'(by omega) = y at hy
        have my := List.mem_of_getElem? hy
        rw [← hS] at my
        have my := List.mem_filter.mp my
        have T' := T.more W my.1 (by simpa using my.2)
        refine ⟨_, ?_, t0 ++ [x], y, .int i, .lst .own (dl (pcs (t0 ++ [x]))), .lst .own (dl S), rfl, T', by simp; omega⟩
        rw [ex]
        have ixy : ixop (.lst .frz (dl S)) (.int (z % (S.length : Int))) = .ok (.int y) := ix_dl q0 hy
        have e0 : dl (t0 ++ [x]) ++ [.int y] = dl (t0 ++ [x] ++ [y]) := by simp [Mn.dl]
        have ll : (dl (t0 ++ [x])).length < 16777216 := by simp; omega
        generalize dl (t0 ++ [x]) = dt at ll e0 ⊢
        simp [i5__law_train, ne_nil, hSe, ownAt, getP, setP, ez, bo_mod (show (0 : Int) < (S.length : Int) by omega), ixy, ll, e0])
  rw [show (dl (rng 0 (m / 100 % most).toNat)).length = (m / 100 % most).toNat by simp] at tl
  refine ⟨t0 ++ [x], T, by simp; omega, ?_⟩
  have rr := it_r1 (show -1000000000 ≤ m / 100 % most by omega) (by omega)
  have m1 : binop .mod (.int m) (.int (2 * n)) = .ok (.int (m % (2 * n))) := bo_mod (by omega)
  have m2 : binop .mod (.int (m / 100)) (.int most) = .ok (.int (m / 100 % most)) := bo_mod (by omega)
  simp [aa__law_train, runS_val, ss__law_train, bo_mul (i := 2) (.inl (by omega)), bo_fdiv, m1, m2, rr, l1]
/-- a run that leads on -/
inductive Gn (js : List (Int × Int)) (t : List Int) : List (Str × Int) → List Int → Prop where
  | refl : Gn js t [] t
  | step {r : List (Str × Int)} {u : List Int} {m : (Str × Int) × List Int} : Gn js t r u → m ∈ mvs js u → Gn js t (r ++ [m.1]) m.2
theorem Gn.size {js : List (Int × Int)} {t : List Int} {r : List (Str × Int)} {u : List Int} (h : Gn js t r u) (hne : t ≠ []) : u.length = t.length := by
  induction h with
  | refl => rfl
  | @step r u m hg hm ih =>
    have hp := List.length_pos_iff.mpr hne
    have hu : u ≠ [] := List.length_pos_iff.mp (by omega)
    rw [mvs_size hu hm, ih]
theorem ne_em_nil {k k' q : LK} {M : List ((Str × Int) × List Int)} (h : ∀ m, m ∈ M → PyData.strOk m.1.1 = true) : cmpop .ne (.lst k (M.map (em q))) (.lst k' []) = .ok (.bl (!decide (M = []))) := by
  rw [co_ne' (x := .list (M.map pyM)) (y := .list ([].map pyM)) (by simp [D.toPy, pys_em]) (by simp [D.toPy, D.toPys]) (sh_moves h) (sh_moves (M := []) (by simp))]
  cases M <;> simp [PyData.eqv, PyData.eqvAll]
theorem sp_runX {n m most : Int} {js : List (Int × Int)} {t : List Int} (W : Ln n js) (ht : t ≠ []) (tl : t.length < 1000) (hm : 0 ≤ m) (h1 : 0 ≤ most) (h2 : most ≤ 1000) :
    ∃ r u, Gn js t r u ∧ (r.length : Int) ≤ most ∧ aa__law_run [.tup [.int n, .lst .frz (dps js)], .lst .frz (dl t), .int m, .int most] = .ok (.lst .own (mls r)) := by
  have r0 := Int.emod_nonneg m (show most + 1 ≠ 0 by omega)
  have r1 := Int.emod_lt_of_pos m (show 0 < most + 1 by omega)
  obtain ⟨δ1, l1, r, u, x6, x7, x8, rfl, G, gl⟩ := loopF_inv (f := body (look tb__law_run) gam 1000 (.nm 6) b3__law_run) (items := dl (rng 0 (m % (most + 1)).toNat)) (δ := [.tup [.int n, .lst .frz (dps js)], .any, .int m, .int most, .lst .own (mls []), .lst .frz (dl t), .any, .any, .any])
    (fun i δ => ∃ (r : List (Str × Int)) (u : List Int) (x6 x7 x8 : D), δ = [.tup [.int n, .lst .frz (dps js)], .any, .int m, .int most, .lst .own (mls r), .lst .frz (dl u), x6, x7, x8] ∧ Gn js t r u ∧ r.length ≤ i) ⟨[], t, _, _, _, rfl, .refl, by simp⟩ (by
      rintro i d δ hd ⟨r, u, x6, x7, x8, rfl, G, gl⟩
      obtain ⟨j, hj, rfl⟩ := dl_get hd
      have hi : i < (m % (most + 1)).toNat := by
        have := (List.getElem?_eq_some_iff.mp hj).1
        simpa using this
      rw [rng_get hi, Int.zero_add] at hj
      cases hj
      obtain ⟨z, hz, ez⟩ := sp_mix (c := m) (k := 20 + (i : Int)) (by omega) (by omega)
      have us := G.size ht
      have hp := List.length_pos_iff.mpr ht
      have une : u ≠ [] := List.length_pos_iff.mp (by omega)
      have mo := sp_lmo W (t := u) (by omega) une
      have ml := mvs_len (t := u) W
      have ne := ne_em_nil (k := .frz) (k' := .own) (q := .frz) (M := mvs js u) (fun q hq => mvs_ok hq)
      by_cases hM : mvs js u = []
      · refine ⟨_, ?_, r, u, .int i, .lst .own [], x8, rfl, G, by omega⟩
        rw [hM] at mo ne
        simp only [List.map_nil, decide_true, Bool.not_true] at mo ne
        simp [body_ap, b3__law_run, i5__law_run, mo, ne]
      · have mp : 0 < (mvs js u).length := List.length_pos_iff.mpr hM
        have q0 := Int.emod_nonneg z (show ((mvs js u).length : Int) ≠ 0 by omega)
        have q1 := Int.emod_lt_of_pos z (show 0 < ((mvs js u).length : Int) by omega)
        obtain ⟨q, hq, eq⟩ := ix_mapAny (k := .frz) (l := mvs js u) (enc := em .frz) (i := z % ((mvs js u).length : Int)) q0 q1
        have bm : binop .mod (.int z) (.int ((mvs js u).length : Int)) = .ok (.int (z % ((mvs js u).length : Int))) := bo_mod (by omega)
        refine ⟨_, ?_, r ++ [q.1], q.2, .int i, .lst .frz ((mvs js u).map (em .frz)), .any, rfl, .step G hq, by simp; omega⟩
        rw [show decide (mvs js u = []) = false by simp [hM]] at ne
        generalize hL : mvs js u = L at *
        have e0 : mls r ++ [mvD q.1] = mls (r ++ [q.1]) := mls_one
        have rl : r.length < 16777216 := by omega
        have np : (em .frz q).pur = false := by simp [em]
        have ll : L.length < 16777216 := by omega
        have ff : D.frzs (L.map (em .frz)) = L.map (em .frz) := by
          rw [D.frzs_eq, List.map_map]
          exact List.map_congr_left fun m _ => by simp [em]
        have ln : bltop .len [.lst .frz (L.map (em .frz))] = .ok (.int L.length) := by simp
        have rp : (D.lst .own (L.map (em .own))).frz = .lst .frz (L.map (em .frz)) := by simp
        have eq' : ixop (.lst .frz (L.map (em .frz))) (.int (z % (L.length : Int))) = .ok (.tup [mvD q.1, .lst .frz (dl q.2)]) := eq
        simp [body_ap, b3__law_run, i5__law_run, mo, ne, ez, bm, eq', ownAt, getP, setP, M.uses, rl, e0])
  rw [show (dl (rng 0 (m % (most + 1)).toNat)).length = (m % (most + 1)).toNat by simp] at gl
  refine ⟨r, u, G, by omega, ?_⟩
  have rr := it_r1 (show -1000000000 ≤ m % (most + 1) by omega) (by omega)
  have m1 : binop .mod (.int m) (.int (most + 1)) = .ok (.int (m % (most + 1))) := bo_mod (by omega)
  rw [mls_nil] at l1
  simp [aa__law_run, runS_val, ss__law_run, m1, rr, l1]

end K74

namespace K74
open PySem PySem.Spec L2 Mn
open PyProof.Rows hiding St
theorem joinL_cons (s : List Nat) : ∀ (L : List (List Nat)) (p : List Nat), TL.joinL s (p :: L) = p ++ (L.map fun r => s ++ r).flatten
  | [], p => by simp [TL.joinL]
  | r :: L, p => by
    show p ++ (s ++ TL.joinL s (r :: L)) = _
    rw [joinL_cons s L r]
    simp

end K74

namespace K74
open PySem PySem.Spec L2 Mn
open PyProof.Rows hiding St
/-! ### trains and runs as texts -/
theorem rng_cons (a : Int) (m : Nat) : rng a (m + 1) = a :: rng (a + 1) m := by
  unfold rng
  rw [List.range_succ_eq_map, List.map_cons, List.map_map]
  congr 1
  · simp
  · refine List.map_congr_left fun i _ => ?_
    simp only [Function.comp]
    omega
theorem it_r3k {k : Nat} (h1 : k ≤ 1000000) : itop .range3 [.int 0, .int (2 * (k : Int)), .int 2] = .ok (.tup (dl ((rng 0 k).map (2 * ·)))) := by
  have rl : ∀ (m : Nat) (a : Int), rangeL (2 * a) 2 m = dl ((rng a m).map (2 * ·)) := by
    intro m
    induction m with
    | zero => intro a; rfl
    | succ m ih =>
      intro a
      have := ih (a + 1)
      rw [show 2 * (a + 1) = 2 * a + 2 by omega] at this
      rw [rangeL, this, rng_cons]
      rfl
  have sz : Builtin.Range.rangeSize 0 (2 * (k : Int)) 2 = k := by
    unfold Builtin.Range.rangeSize
    rw [if_pos (by decide)]
    by_cases c : (0 : Int) < 2 * k
    · rw [if_pos c]
      omega
    · rw [if_neg c]
      omega
  have ok : okR3 0 (2 * (k : Int)) 2 = true := by
    unfold okR3 Builtin.Range.small
    simp [sz, Builtin.Range.rangeFitsLong]
    omega
  have := rl k 0
  show (if okR3 0 (2 * (k : Int)) 2 = true then R.ok (D.tup (rangeL 0 2 (Builtin.Range.rangeSize 0 (2 * (k : Int)) 2).toNat)) else .bad) = _
  rw [if_pos ok, sz, Int.toNat_natCast]
  exact congrArg (fun z => R.ok (D.tup z)) this
def wOn : List Nat := [111, 110]
def wBack : List Nat := [98, 97, 99, 107]
theorem l_on : Str.ofString "on" = tx wOn := by decide +kernel
theorem l_back : Str.ofString "back" = tx wBack := by decide +kernel
theorem l_dash : Str.ofString "-" = tx [45] := by decide +kernel
def trainL (t : List Int) : List Nat := TL.joinL [32] (t.map endL)
/-- a run's moves, words as codes -/
abbrev Cm : Type := List Nat × Int
def cmD (m : Cm) : D := .tup [.str (tx m.1), .int m.2]
def cms (r : List Cm) : List D := r.map cmD
@[simp] theorem cms_len {r : List Cm} : (cms r).length = r.length := by simp [cms]
@[simp] theorem cms_nil : cms [] = [] := rfl
def moveL (m : Cm) : List Nat := m.1 ++ ([32] ++ endL m.2)
def runL (r : List Cm) : List Nat := if r = [] then [45] else TL.joinL [32] (r.map moveL)
/-- a train's ends, a run's moves are small -/
def St (t : List Int) : Prop := ∀ e, e ∈ t → 0 ≤ e ∧ e < 1000000000
def Sr (r : List Cm) : Prop := ∀ m, m ∈ r → (m.1 = wOn ∨ m.1 = wBack) ∧ 0 ≤ m.2 ∧ m.2 < 1000000000
theorem wOn_lo : Lo wOn := Lo.of rfl
theorem wBack_lo : Lo wBack := Lo.of rfl
theorem Sr.wlo {r : List Cm} (h : Sr r) {m : Cm} (hm : m ∈ r) : Lo m.1 ∧ m.1.length ≤ 4 := by
  rcases (h m hm).1 with z | z <;> rw [z]
  · exact ⟨wOn_lo, by decide⟩
  · exact ⟨wBack_lo, by decide⟩
theorem joinL_lo : ∀ {L : List (List Nat)}, (∀ l, l ∈ L → Lo l) → Lo (TL.joinL [32] L)
  | [], _ => fun c hc => by cases hc
  | p :: L, h => by
    rw [joinL_cons]
    refine (h p List.mem_cons_self).app fun c hc => ?_
    obtain ⟨l, hl, hc⟩ := List.mem_flatten.mp hc
    obtain ⟨q, hq, rfl⟩ := List.mem_map.mp hl
    rcases List.mem_append.mp hc with hc | hc
    · rw [List.mem_singleton.mp hc]; omega
    · exact h q (List.mem_cons_of_mem _ hq) c hc
theorem sum_le {L : List (List Nat)} {b : Nat} (h : ∀ l, l ∈ L → l.length ≤ b) : (L.map (·.length)).sum ≤ b * L.length := by
  induction L with
  | nil => simp
  | cons l L ih =>
    have e1 := ih fun x hx => h x (List.mem_cons_of_mem _ hx)
    have e2 := h l List.mem_cons_self
    rw [List.map_cons, List.sum_cons, List.length_cons, Nat.mul_add]
    omega
theorem joinL_le {L : List (List Nat)} {b : Nat} (h : ∀ l, l ∈ L → l.length ≤ b) : (TL.joinL [32] L).length ≤ (b + 1) * L.length := by
  cases L with
  | nil => simp [TL.joinL]
  | cons p L =>
    have e1 := h p List.mem_cons_self
    have key : ∀ L : List (List Nat), (∀ l, l ∈ L → l.length ≤ b) → ((L.map fun r => [32] ++ r).flatten).length ≤ (b + 1) * L.length := by
      intro L
      induction L with
      | nil => intro _; simp
      | cons q L ih =>
        intro hL
        have i1 := ih fun x hx => hL x (List.mem_cons_of_mem _ hx)
        have i2 := hL q List.mem_cons_self
        rw [List.map_cons, List.flatten_cons, List.length_append, List.length_append, List.length_singleton, List.length_cons, Nat.mul_add]
        omega
    have e2 := key L fun x hx => h x (List.mem_cons_of_mem _ hx)
    rw [joinL_cons, List.length_append, List.length_cons, Nat.mul_add]
    omega
theorem compT {f : D → R (Option D)} {l : List Int} {g : Int → List Nat} (h : ∀ e, e ∈ l → f (.int e) = .ok (some (.str (tx (g e))))) : compL f (dl l) = .ok (dtx (l.map g)) := by
  rw [show dl l = l.map D.int from rfl, compL_map D.int (fun _ => true) (fun e => .str (tx (g e))) (fun x hx => by rw [h x hx]; rfl), List.filter_eq_self.mpr (by simp)]
  simp [dtx, Function.comp_def]
theorem compM {f : D → R (Option D)} {r : List Cm} {g : Cm → List Nat} (h : ∀ m, m ∈ r → f (cmD m) = .ok (some (.str (tx (g m))))) : compL f (cms r) = .ok (dtx (r.map g)) := by
  rw [show cms r = r.map cmD from rfl, compL_map cmD (fun _ => true) (fun e => .str (tx (g e))) (fun x hx => by rw [h x hx]; rfl), List.filter_eq_self.mpr (by simp)]
  simp [dtx, Function.comp_def]
theorem train_join {t : List Int} (h : St t) (hl : t.length ≤ 1000) : (((t.map endL).map (·.length)).sum + (t.map endL).length * [32].length) ≤ 16777216 := by
  have := sum_le (L := t.map endL) (b := 10) (fun l hl => by
    obtain ⟨e, he, rfl⟩ := List.mem_map.mp hl
    exact endL_len (h e he).1 (h e he).2)
  simp at this ⊢
  omega
theorem moveL_len {r : List Cm} (h : Sr r) {m : Cm} (hm : m ∈ r) : (moveL m).length ≤ 15 := by
  have e1 := (h.wlo hm).2
  have e2 := endL_len (h m hm).2.1 (h m hm).2.2
  unfold moveL
  simp
  omega
theorem moveL_lo {r : List Cm} (h : Sr r) {m : Cm} (hm : m ∈ r) : Lo (moveL m) := (h.wlo hm).1.app ((Lo.of rfl).app (endL_lo _))
theorem run_join {r : List Cm} (h : Sr r) (hl : r.length ≤ 1000) : (((r.map moveL).map (·.length)).sum + (r.map moveL).length * [32].length) ≤ 16777216 := by
  have := sum_le (L := r.map moveL) (b := 15) (fun l hl => by
    obtain ⟨e, he, rfl⟩ := List.mem_map.mp hl
    exact moveL_len h he)
  simp at this ⊢
  omega
theorem sp_train_text {t : List Int} (h : St t) (hl : t.length ≤ 1000) : aa__law_train_text [.lst .frz (dl t)] = .ok (.str (tx (trainL t))) := by
  have j1 := join_tx (k := .own) (train_join h hl)
  simp [aa__law_train_text, runS_val, ss__law_train_text, l_sp, show t.length < 16777216 by omega]
  rw [compT (g := endL) fun e he => by simp [turn, sp_end_text (h e he).1 (h e he).2]]
  simp [j1, trainL]

end K74

namespace K74
open PySem PySem.Spec L2 Mn
open PyProof.Rows hiding St
/-! ### runs shown; trains and runs read -/
def toM (r : List Cm) : List (Str × Int) := r.map fun m => (tx m.1, m.2)
theorem cms_mls (r : List Cm) : cms r = mls (toM r) := by
  unfold cms mls toM
  rw [List.map_map]
  rfl
@[simp] theorem frzs_cms {r : List Cm} : D.frzs (cms r) = cms r := by rw [cms_mls, frzs_mls]
@[simp] theorem purs_cms {r : List Cm} : D.purs (cms r) = true := by rw [cms_mls, purs_mls]
theorem Sr.ok {r : List Cm} (h : Sr r) : ∀ m, m ∈ toM r → okS m.1 := fun m hm => by
  obtain ⟨q, hq, rfl⟩ := List.mem_map.mp hm
  exact okS_tx (h.wlo hq).1
theorem eq_cms_nil {k k' : LK} {r : List Cm} (h : Sr r) : cmpop .eq (.lst k (cms r)) (.lst k' []) = .ok (.bl (decide (r = []))) := by
  rw [cms_mls, eq_mls_nil h.ok]
  simp [toM]
theorem ne_cms {k k' : LK} {r : List Cm} (h : Sr r) : cmpop .ne (.lst k (cms r)) (.lst k' (cms r)) = .ok (.bl false) := by
  rw [cms_mls, ne_mls h.ok]
theorem sp_run_text {r : List Cm} (h : Sr r) (hl : r.length ≤ 1000) : aa__law_run_text [.lst .frz (cms r)] = .ok (.str (tx (runL r))) := by
  have e1 := eq_cms_nil (k := .frz) (k' := .own) h
  have cp : ∀ f : D → R (Option D), (∀ m, m ∈ r → f (cmD m) = .ok (some (.str (tx (moveL m))))) → compL f (cms r) = .ok (dtx (r.map moveL)) := fun f hf => compM hf
  have j1 := join_tx (k := .own) (run_join h hl)
  have m0 : binop .mul (.str (tx [45])) (.int 0) = .ok (.str (tx [])) := by kernel_rfl
  have m1 : binop .mul (.str (tx [45])) (.int 1) = .ok (.str (tx [45])) := by kernel_rfl
  have jl : (TL.joinL [32] (r.map moveL)).length ≤ 16 * r.length := by
    have := joinL_le (L := r.map moveL) (b := 15) (fun l hl => by
      obtain ⟨e, he, rfl⟩ := List.mem_map.mp hl
      exact moveL_len h he)
    simpa using this
  simp [aa__law_run_text, runS_val, ss__law_run_text, l_sp, l_dash, show r.length < 16777216 by omega]
  rw [cp _ fun m hm => by
    have w := h.wlo hm
    have q := h m hm
    have e2 := endL_len q.2.1 q.2.2
    have b1 : binop .add (.str (tx m.1)) (.str (tx [32])) = .ok (.str (tx (m.1 ++ [32]))) := bo_tx (by simp; omega)
    have b2 : binop .add (.str (tx (m.1 ++ [32]))) (.str (tx (endL m.2))) = .ok (.str (tx (moveL m))) := by
      rw [bo_tx (by simp; omega)]
      simp [moveL]
    simp [turn, cmD, b1, b2, sp_end_text q.2.1 q.2.2]]
  unfold runL
  by_cases c : r = []
  · subst c
    have e1' : cmpop .eq (.lst .frz []) (.lst .own []) = .ok (.bl true) := by simpa using e1
    have j0 : joop (.str (tx [32])) (.lst .own []) = .ok (.str (tx [])) := j1
    have b3 : binop .add (.str (tx [])) (.str (tx [45])) = .ok (.str (tx [45])) := bo_tx (by simp)
    simp [e1', j0, m1, b3]
  · rw [if_neg c]
    have b3 : binop .add (.str (tx (TL.joinL [32] (r.map moveL)))) (.str (tx [])) = .ok (.str (tx (TL.joinL [32] (r.map moveL)))) := by
      rw [bo_tx (by simp; omega)]
      simp
    simp [e1, c, j1, m0, b3]
theorem endL_no {e : Int} {c : Nat} (h : c < 48) : c ∉ endL e := fun z => by
  rcases endL_dig e c z with z | z | z
  · simp [dig] at z; omega
  · omega
  · omega
theorem wds_train {t : List Int} (h : t ≠ []) : wds (trainL t) = t.map endL := by
  unfold trainL wds
  refine TL.spl_join (by simpa using h) fun p hp => ?_
  obtain ⟨e, _, rfl⟩ := List.mem_map.mp hp
  exact endL_no (by omega)
theorem trainL_lo {t : List Int} : Lo (trainL t) := joinL_lo fun l hl => by
  obtain ⟨e, _, rfl⟩ := List.mem_map.mp hl
  exact endL_lo e
theorem trainL_len {t : List Int} (h : St t) : (trainL t).length ≤ 11 * t.length := by
  have := joinL_le (L := t.map endL) (b := 10) (fun l hl => by
    obtain ⟨e, he, rfl⟩ := List.mem_map.mp hl
    exact endL_len (h e he).1 (h e he).2)
  unfold trainL
  simpa using this
theorem compE {f : D → R (Option D)} {t : List Int} (h : ∀ e, e ∈ t → f (.str (tx (endL e))) = .ok (some (.int e))) : compL f (dtx (t.map endL)) = .ok (dl t) := by
  rw [show dtx (t.map endL) = t.map fun e => D.str (tx (endL e)) by simp [dtx, Function.comp_def], compL_map (fun e => D.str (tx (endL e))) (fun _ => true) (fun e => .int e) (fun x hx => by rw [h x hx]; rfl), List.filter_eq_self.mpr (by simp)]
  rfl
/-! a run read -/
def runPairs : List (List Nat) → Option (List Cm)
  | a :: b :: L => if a = wOn ∨ a = wBack then (match endIn b with
    | some e => (runPairs L).map ((a, e) :: ·)
    | none => none) else none
  | _ => some []
def runIn (l : List Nat) : Option (List Cm) := if l = [45] then some [] else if (wds l).length % 2 = 1 then none else runPairs (wds l)
theorem notin_words {a : List Nat} (ha : Lo a) : cmpop .notin (.str (tx a)) (.lst .own [.str (tx wOn), .str (tx wBack)]) = .ok (.bl (!decide (a = wOn ∨ a = wBack))) := by
  show (inD (.str (tx a)) [.str (tx wOn), .str (tx wBack)] >>= fun k => R.ok (D.bl (!k))) = _
  unfold inD
  have s1 : SeqAt.shaped (.str (tx a)) = true := sh_str (okS_tx ha)
  have s2 : SeqAt.shaped (.list [.str (tx wOn), .str (tx wBack)]) = true := by
    have o1 : PyData.strOk (tx wOn) = true := okS_tx wOn_lo
    have o2 : PyData.strOk (tx wBack) = true := okS_tx wBack_lo
    simp [SeqAt.shaped, PyData.canLay0, PyData.canLayAll0, o1, o2, PyData.depth, PyData.depthAll]
  simp only [D.toPy, D.toPys, s1, s2, Bool.and_self, if_true]
  have e : ([PyData.str (tx wOn), PyData.str (tx wBack)].any fun z => PyData.eqv z (.str (tx a))) = decide (a = wOn ∨ a = wBack) := by
    rw [Bool.eq_iff_iff]
    simp [PyData.eqv, tx_inj]
    constructor
    · rintro (h | h)
      · exact .inl h.symm
      · exact .inr h.symm
    · rintro (h | h)
      · exact .inl h.symm
      · exact .inr h.symm
  rw [e]
  rfl
theorem run_loop {l : D} {W : List (List Nat)} (hW : ∀ w, w ∈ W → w.length ≤ 1000000 ∧ Lo w) (hl : W.length < 1000000) : ∀ (k i : Nat) (acc : List Cm) (x3 : D), 2 * (i + k) = W.length → acc.length = i →
    ∃ y3 δ', loopF (body (look tb_read_run) gam 1000 (.nm 3) b7_read_run) (dl ((rng (i : Int) k).map (2 * ·))) [l, .lst .own (dtx W), .lst .own (cms acc), x3] = match runPairs (W.drop (2 * i)) with
      | some r => .next [l, .lst .own (dtx W), .lst .own (cms (acc ++ r)), y3]
      | none => .exc "NoText" δ'
  | 0, i, acc, x3, hk, ha => by
    rw [show W.drop (2 * i) = [] from List.drop_eq_nil_of_le (by omega)]
    exact ⟨x3, [], by simp [runPairs, rng, Mn.dl, loopF]⟩
  | k + 1, i, acc, x3, hk, ha => by
    obtain ⟨a, h1⟩ : ∃ a, W[2 * i]? = some a := ⟨_, List.getElem?_eq_getElem (by omega)⟩
    obtain ⟨b, h2⟩ : ∃ b, W[2 * i + 1]? = some b := ⟨_, List.getElem?_eq_getElem (by omega)⟩
    have hd : W.drop (2 * i) = a :: b :: W.drop (2 * (i + 1)) := by
      have g1 := (List.getElem?_eq_some_iff.mp h1)
      have g2 := (List.getElem?_eq_some_iff.mp h2)
      rw [List.drop_eq_getElem_cons g1.1, List.drop_eq_getElem_cons g2.1, g1.2, g2.2]
      rfl
    have la := hW a (List.mem_of_getElem? h1)
    have lb := hW b (List.mem_of_getElem? h2)
    have ia : ixop (.lst .frz (dtx W)) (.int (2 * (i : Int))) = .ok (.str (tx a)) := by
      have := dtx_ix (k := .frz) h1
      rwa [show ((2 * i : Nat) : Int) = 2 * (i : Int) by omega] at this
    have ib : ixop (.lst .frz (dtx W)) (.int (2 * (i : Int) + 1)) = .ok (.str (tx b)) := by
      have := dtx_ix (k := .frz) h2
      rwa [show ((2 * i + 1 : Nat) : Int) = 2 * (i : Int) + 1 by omega] at this
    have nw := notin_words la.2
    have eb := sp_end_in (l := b) (by omega) lb.2
    rw [rng_cons, List.map_cons, show dl (2 * (i : Int) :: (rng ((i : Int) + 1) k).map (2 * ·)) = .int (2 * (i : Int)) :: dl ((rng ((i : Int) + 1) k).map (2 * ·)) from rfl, loopF_cons, hd]
    unfold runPairs
    by_cases c : a = wOn ∨ a = wBack
    · rw [if_pos c]
      rw [show decide (a = wOn ∨ a = wBack) = true by simpa using c] at nw
      cases hb : endIn b with
      | none =>
        rw [hb] at eb
        simp only at eb
        refine ⟨.any, [l, .lst .own (dtx W), .lst .own (cms acc), .int (2 * (i : Int))], ?_⟩
        simp [body_ap, b7_read_run, i8_read_run, ia, ib, l_on, l_back, nw, eb, ownAt, getP]
      | some e =>
        rw [hb] at eb
        simp only at eb
        obtain ⟨y3, δ', ih⟩ := run_loop (l := l) hW hl k (i + 1) (acc ++ [(a, e)]) (.int (2 * (i : Int))) (by omega) (by simp [ha])
        refine ⟨y3, δ', ?_⟩
        have hl' : acc.length < 16777216 := by omega
        have e0 : cms acc ++ [.tup [.str (tx a), .int e]] = cms (acc ++ [(a, e)]) := by simp [cms, cmD]
        have e1 : body (look tb_read_run) gam 1000 (.nm 3) b7_read_run (.int (2 * (i : Int))) [l, .lst .own (dtx W), .lst .own (cms acc), x3] = .next [l, .lst .own (dtx W), .lst .own (cms (acc ++ [(a, e)])), .int (2 * (i : Int))] := by
          simp [body_ap, b7_read_run, i8_read_run, ia, ib, l_on, l_back, nw, eb, ownAt, getP, setP, hl', e0]
        rw [e1, thn_next, show ((i : Int) + 1) = ((i + 1 : Nat) : Int) by omega, ih]
        cases runPairs (W.drop (2 * (i + 1))) with
        | none => rfl
        | some r => simp
    · rw [if_neg c]
      rw [show decide (a = wOn ∨ a = wBack) = false by simpa using c] at nw
      refine ⟨.any, [l, .lst .own (dtx W), .lst .own (cms acc), .int (2 * (i : Int))], ?_⟩
      simp [body_ap, b7_read_run, i8_read_run, ia, l_on, l_back, nw]
theorem ex_fr_of {Φ : Fn} {γ : Mn.Gn} {fu : Nat} {tg : Tg} {it : M} {b : S} {δ δ1 : List D} {args items : List D} (h1 : evI Φ γ it δ = .ok (args, δ1)) (h2 : itJ it args = .ok items) : exec Φ γ fu (.fr tg it b) δ = loopF (body Φ γ fu tg b) items δ1 := by
  rw [ex_fr, h1]
  simp only [h2]
theorem sp_read_run {l : List Nat} (hl : l.length ≤ 500000) (lo : Lo l) : aa_read_run [.str (tx l)] = match runIn l with
    | some r => .ok (.lst .own (cms r))
    | none => .exc "NoText" := by
  have e1 := eq_tx (b := [45]) lo (fun c hc => by rw [List.mem_singleton.mp hc]; omega)
  have s1 := split_tx (a := l) (c := 32) (by omega) (by omega)
  have ln : (wds l).length ≤ l.length + 1 := (spl_len [32] l 0 []).1
  unfold runIn
  by_cases c1 : l = [45]
  · subst c1
    have e1' : cmpop .eq (.str (tx [45])) (.str (tx [45])) = .ok (.bl true) := by rw [e1]; rfl
    simp [aa_read_run, runS_val, ss_read_run, i1_read_run, l_dash, e1']
  · rw [if_neg c1]
    have e1' : cmpop .eq (.str (tx l)) (.str (tx [45])) = .ok (.bl false) := by rw [e1]; simp [c1]
    have md : binop .mod (.int ((wds l).length : Int)) (.int 2) = .ok (.int (((wds l).length : Int) % 2)) := bo_mod (by omega)
    by_cases c2 : (wds l).length % 2 = 1
    · rw [if_pos c2]
      have c2' : ((wds l).length : Int) % 2 = 1 := by omega
      simp [aa_read_run, runS_val, ss_read_run, i1_read_run, i4_read_run, l_dash, e1', l_sp, s1, md, c2']
    · rw [if_neg c2]
      have c2' : ¬ ((wds l).length : Int) % 2 = 1 := by omega
      have hk : 2 * ((wds l).length / 2) = (wds l).length := by omega
      have r3 := it_r3k (k := (wds l).length / 2) (by omega)
      rw [show (2 * (((wds l).length / 2 : Nat) : Int)) = ((wds l).length : Int) by omega] at r3
      obtain ⟨y3, δ', lp⟩ := run_loop (l := .str (tx l)) (W := wds l) (fun w hw => ⟨by have := spl_le hw; omega, spl_lo lo hw⟩) (by omega) ((wds l).length / 2) 0 [] .any (by omega) rfl
      rw [show ((0 : Nat) : Int) = 0 from rfl, Nat.mul_zero, List.drop_zero, cms_nil] at lp
      simp only [List.nil_append] at lp
      have fr : exec (look tb_read_run) gam 1000 (.fr (.nm 3) (.it .range3 (.cons (.int 0) (.cons (.blt .len (.cons (.slot 1) .nil)) (.cons (.int 2) .nil)))) b7_read_run) [.str (tx l), .lst .own (dtx (wds l)), .lst .own [], .any] = loopF (body (look tb_read_run) gam 1000 (.nm 3) b7_read_run) (dl ((rng 0 ((wds l).length / 2)).map (2 * ·))) [.str (tx l), .lst .own (dtx (wds l)), .lst .own [], .any] := by
        have e1 : evI (look tb_read_run) gam (.it .range3 (.cons (.int 0) (.cons (.blt .len (.cons (.slot 1) .nil)) (.cons (.int 2) .nil)))) [.str (tx l), .lst .own (dtx (wds l)), .lst .own [], .any] = .ok ([.int 0, .int ((wds l).length : Int), .int 2], [.str (tx l), .lst .own (dtx (wds l)), .lst .own [], .any]) := by simp
        have e2 : ∀ es : M, itJ (.it .range3 es) [.int 0, .int ((wds l).length : Int), .int 2] = .ok (dl ((rng 0 ((wds l).length / 2)).map (2 * ·))) := fun es => by
          rw [itJ_it, r3, R.bind_ok, tupOf_tup]
        exact ex_fr_of e1 (e2 _)
      rw [lp] at fr
      clear r3 lp
      have a1 : exec (look tb_read_run) gam 1000 i1_read_run ([.str (tx l)] ++ List.replicate (4 - 1) D.any) = .next [.str (tx l), .any, .any, .any] := by
        simp [i1_read_run, l_dash, e1']
      have a2 : exec (look tb_read_run) gam 1000 (.set (.nm 1) (.split (.slot 0) (.str " "))) [.str (tx l), .any, .any, .any] = .next [.str (tx l), .lst .own (dtx (wds l)), .any, .any] := by
        simp [l_sp, s1]
      have a3 : exec (look tb_read_run) gam 1000 i4_read_run [.str (tx l), .lst .own (dtx (wds l)), .any, .any] = .next [.str (tx l), .lst .own (dtx (wds l)), .any, .any] := by
        have c3 : ev (look tb_read_run) gam (.cmp .eq (.bin .mod (.blt .len (.cons (.slot 1) .nil)) (.int 2)) (.int 1)) (D.frzs [.str (tx l), .lst .own (dtx (wds l)), .any, .any]) = .ok (.bl false) := by
          simp [md, c2']
        unfold i4_read_run
        rw [ex_ife, c3]
        rfl
      have a4 : exec (look tb_read_run) gam 1000 (.set (.nm 2) (.list .nil)) [.str (tx l), .lst .own (dtx (wds l)), .any, .any] = .next [.str (tx l), .lst .own (dtx (wds l)), .lst .own [], .any] := by
        simp
      simp only [aa_read_run, runS_val, ss_read_run]
      rw [ex_cons, a1, thn_next, ex_cons, a2, thn_next, ex_cons, a3, thn_next, ex_cons, a4, thn_next, ex_cons, fr]
      cases hr : runPairs (wds l) with
      | none => simp
      | some r => simp
theorem runL_words {r : List Cm} (hne : r ≠ []) (h : Sr r) : wds (runL r) = (r.map fun m => [m.1, endL m.2]).flatten := by
  have key : ∀ r : List Cm, r ≠ [] → TL.joinL [32] (r.map moveL) = TL.joinL [32] ((r.map fun m => [m.1, endL m.2]).flatten) := by
    intro r
    induction r with
    | nil => intro z; exact absurd rfl z
    | cons m r ih =>
      intro _
      cases r with
      | nil => simp [TL.joinL, moveL]
      | cons q r =>
        have := ih (by simp)
        simp only [List.map_cons, List.flatten_cons, List.cons_append, List.nil_append] at this ⊢
        show moveL m ++ ([32] ++ TL.joinL [32] (moveL q :: r.map moveL)) = m.1 ++ ([32] ++ (endL m.2 ++ ([32] ++ TL.joinL [32] (q.1 :: endL q.2 :: (r.map fun m => [m.1, endL m.2]).flatten))))
        rw [this]
        simp [moveL]
  unfold runL wds
  rw [if_neg hne, key r hne]
  refine TL.spl_join ?_ fun p hp => ?_
  · cases r with
    | nil => exact absurd rfl hne
    | cons m r => simp
  · obtain ⟨l, hl, hp⟩ := List.mem_flatten.mp hp
    obtain ⟨m, hm, rfl⟩ := List.mem_map.mp hl
    simp only [List.mem_cons, List.not_mem_nil, or_false] at hp
    rcases hp with rfl | rfl
    · rcases (h m hm).1 with z | z <;> rw [z] <;> decide
    · exact endL_no (by omega)
theorem runPairs_words : ∀ {r : List Cm}, Sr r → runPairs ((r.map fun m => [m.1, endL m.2]).flatten) = some r
  | [], _ => rfl
  | m :: r, h => by
    have q := h m List.mem_cons_self
    have ih := runPairs_words fun x hx => h x (List.mem_cons_of_mem _ hx)
    show runPairs (m.1 :: endL m.2 :: (r.map fun m => [m.1, endL m.2]).flatten) = _
    unfold runPairs
    rw [if_pos q.1, endIn_end q.2.1 q.2.2, ih]
    rfl
theorem runIn_run {r : List Cm} (h : Sr r) : runIn (runL r) = some r := by
  unfold runIn
  by_cases c : r = []
  · subst c
    rw [if_pos (by simp [runL])]
  · have w := runL_words c h
    have ev : (wds (runL r)).length % 2 = 0 := by
      rw [w, List.length_flatten, List.map_map]
      have : (List.length ∘ fun m : Cm => [m.1, endL m.2]) = fun _ => 2 := by funext m; rfl
      rw [this]
      have : ∀ L : List Cm, (L.map fun _ => 2).sum = 2 * L.length := by
        intro L
        induction L with
        | nil => rfl
        | cons a L ih => rw [List.map_cons, List.sum_cons, ih, List.length_cons]; omega
      rw [this]
      omega
    have nd : runL r ≠ [45] := by
      intro z
      have : wds (runL r) = [[45]] := by rw [z]; decide
      rw [this] at ev
      simp at ev
    rw [if_neg nd, if_neg (by omega), w, runPairs_words h]
theorem runL_lo {r : List Cm} (h : Sr r) : Lo (runL r) := by
  unfold runL
  split
  · exact Lo.of rfl
  · exact joinL_lo fun l hl => by
      obtain ⟨e, he, rfl⟩ := List.mem_map.mp hl
      exact moveL_lo h he
theorem runL_len {r : List Cm} (h : Sr r) : (runL r).length ≤ 1 + 16 * r.length := by
  unfold runL
  split
  · simp
  · have := joinL_le (L := r.map moveL) (b := 15) (fun l hl => by
      obtain ⟨e, he, rfl⟩ := List.mem_map.mp hl
      exact moveL_len h he)
    rw [List.length_map] at this
    omega

end K74

namespace K74
open PySem PySem.Spec L2 Mn
open PyProof.Rows hiding St
/-! ### the law's own reading -/
theorem comp_sig {l : List Nat} {f : D → R (Option D)} (h : ∀ c, c ∈ l → f (.str (tx [c])) = .ok (if dig c = true then none else some (.str (tx [c])))) : compL f (dsg l) = .ok (dsg (l.filter fun c => !dig c)) := by
  unfold dsg
  rw [compL_map (fun c => D.str (tx [c])) (fun c => !dig c) (fun c => .str (tx [c])) (fun x hx => by rw [h x hx]; cases dig x <;> rfl)]
theorem sp_law_number {l : List Nat} (hl : l.length ≤ 1000000) (lo : Lo l) : aa__law_number [.str (tx l)] = .ok (match numIn l with
    | some n => .int n
    | none => .non) := by
  have e1 := eq_tx (b := []) lo (fun _ h => by cases h)
  have e2 := len_tx (l := l) (by omega)
  have cs : ∀ f : D → R (Option D), (∀ c, c ∈ l → f (.str (tx [c])) = .ok (if dig c = true then none else some (.str (tx [c])))) → compL f (dsg l) = .ok (dsg (l.filter fun c => !dig c)) := fun f hf => comp_sig hf
  have nt : ∀ c : Nat, cmpop .notin (.str (tx [c])) (.str (tx [48, 49, 50, 51, 52, 53, 54, 55, 56, 57])) = .ok (.bl (!dig c)) := fun c => by rw [notin_tx, fig_mem]
  have fl : (l.filter fun c => !dig c).length = 0 ↔ l.all dig = true := by
    rw [List.length_eq_zero_iff, List.filter_eq_nil_iff, List.all_eq_true]
    constructor
    · intro h c hc
      have := h c hc
      simpa using this
    · intro h c hc
      simp [h c hc]
  have tl : ∀ f : D → R (Option D), (∀ c, c ∈ l → f (.str (tx [c])) = .ok (if dig c = true then none else some (.str (tx [c])))) → (compL f (dsg l) >>= fun rs => R.ok (D.lst .own rs)) = .ok (.lst .own (dsg (l.filter fun c => !dig c))) := fun f hf => by rw [cs f hf]; rfl
  unfold numIn
  by_cases c1 : l = []
  · subst c1
    have ee : cmpop .eq (.str (tx [])) (.str (tx [])) = .ok (.bl true) := by rw [e1]; rfl
    simp [aa__law_number, runS_val, ss__law_number, i1__law_number, l_e, ee]
  · by_cases c2 : 40 < l.length
    · rw [if_pos (.inr (.inl c2))]
      have c2' : (40 : Int) < l.length := by omega
      simp [aa__law_number, runS_val, ss__law_number, i1__law_number, l_e, e1, c1, e2, c2']
    · have c2' : ¬ (40 : Int) < l.length := by omega
      have hc1 : ev (look tb__law_number) gam (.comp (.slot 1) (.nm 1) (.its (.slot 0)) (.cmp .notin (.slot 1) (.str "0123456789")) [("_law_sign", 1)]) [.str (tx l), .any] = .ok (.lst .own (dsg (l.filter fun c => !dig c))) := by
        simp [signs_tx, show l.length < 16777216 by omega]
        rw [cs _ fun c hc => by simp [turn, l_fig, nt]; cases dig c <;> rfl]
        rfl
      have hc2 : ev (look tb__law_number) gam (.cmp .gt (.blt .len (.cons (.comp (.slot 1) (.nm 1) (.its (.slot 0)) (.cmp .notin (.slot 1) (.str "0123456789")) [("_law_sign", 1)]) .nil)) (.int 0)) [.str (tx l), .any] = .ok (.bl (!l.all dig)) := by
        rw [ev_cmp, ev_blt, ev_cons, hc1]
        generalize (l.filter fun c => !dig c) = F at fl
        have e0 : decide ((0 : Int) < F.length) = !l.all dig := by
          cases ha : l.all dig with
          | true =>
            have := fl.mpr ha
            rw [this]
            rfl
          | false =>
            have : F.length ≠ 0 := fun z => by have := fl.mp z; rw [ha] at this; cases this
            have hp : (0 : Int) < F.length := by omega
            rw [decide_eq_true hp]
            rfl
        simp only [ev_nil, ev_int, R.bind_ok, tupOf_tup, len_l, dsg_len]
        exact congrArg (fun z => R.ok (D.bl z)) e0
      have i1e : exec (look tb__law_number) gam 1000 i1__law_number [.str (tx l), .any] = if l.all dig = true then .next [.str (tx l), .any] else .ret .non := by
        have cc : ev (look tb__law_number) gam (.or (.cmp .eq (.slot 0) (.str "")) (.or (.cmp .gt (.blt .len (.cons (.slot 0) .nil)) (.int 40)) (.cmp .gt (.blt .len (.cons (.comp (.slot 1) (.nm 1) (.its (.slot 0)) (.cmp .notin (.slot 1) (.str "0123456789")) [("_law_sign", 1)]) .nil)) (.int 0)))) (D.frzs [.str (tx l), .any]) = .ok (.bl (!l.all dig)) := by
          have fz : D.frzs [.str (tx l), .any] = [.str (tx l), .any] := by simp
          rw [fz, ev_or, ev_or, hc2]
          simp [l_e, e1, c1, e2, c2']
        unfold i1__law_number
        rw [ex_ife, cc]
        cases l.all dig <;> simp
      have st0 : ([.str (tx l)] ++ List.replicate (2 - 1) D.any) = [.str (tx l), .any] := rfl
      cases c3 : l.all dig with
      | false =>
        rw [c3] at i1e
        simp only [Bool.false_eq_true, if_false] at i1e
        rw [if_pos (.inr (.inr (.inl rfl)))]
        simp only [aa__law_number, runS_val, ss__law_number]
        rw [st0, ex_cons, i1e]
        rfl
      | true =>
        rw [c3] at i1e
        simp only [if_true] at i1e
        obtain ⟨h, r, rfl⟩ := List.exists_cons_of_ne_nil c1
        have hh : Lo [h] := fun c hc => lo c (by rw [List.mem_singleton.mp hc]; simp)
        have i0 : ixop (.str (tx (h :: r))) (.int 0) = .ok (.str (tx [h])) := ix_tx (i := 0) rfl (by omega)
        have e3 := eq_tx (b := [48]) hh (fun c hc => by rw [List.mem_singleton.mp hc]; omega)
        have e4 := ne_tx (b := [48]) lo (fun c hc => by rw [List.mem_singleton.mp hc]; omega)
        have e5 := int_tx c3 c1 (by omega)
        simp only [aa__law_number, runS_val, ss__law_number]
        rw [st0, ex_cons, i1e, thn_next]
        by_cases c4 : h = 48
        · subst c4
          have e3' : cmpop .eq (.str (tx [48])) (.str (tx [48])) = .ok (.bl true) := by rw [e3]; rfl
          by_cases c5 : r = []
          · subst c5
            have e4' : cmpop .ne (.str (tx [48])) (.str (tx [48])) = .ok (.bl false) := by rw [e4]; rfl
            rw [if_neg (by simp [dig])]
            simp [i3__law_number, l_0, i0, e3', e4', e5]
          · have e4' : cmpop .ne (.str (tx (48 :: r))) (.str (tx [48])) = .ok (.bl true) := by rw [e4]; simp [c5]
            rw [if_pos (.inr (.inr (.inr ⟨rfl, by simp [c5]⟩)))]
            simp [i3__law_number, l_0, i0, e3', e4']
        · have e3' : cmpop .eq (.str (tx [h])) (.str (tx [48])) = .ok (.bl false) := by rw [e3]; simp [c4]
          rw [if_neg (by
            rintro (z | z | z | ⟨z, _⟩)
            · exact c1 z
            · exact c2 z
            · cases z
            · exact c4 (by simpa using z))]
          simp [i3__law_number, l_0, i0, e3', e5]
theorem sp_law_end {l : List Nat} (hl : l.length ≤ 1000000) (lo : Lo l) : aa__law_end [.str (tx l)] = .ok (match endIn l with
    | some n => .int n
    | none => .non) := by
  have s2 := sl_init (l := l) (by omega)
  have f2 : ∀ δ : List D, Mn.ev (look tb__law_end) gam (.slice (.slot 0) .nil (.neg (.int 1))) δ = (rd (getD' δ 0) >>= fun x => slop x none (some (-1))) := fun δ => by
    rw [ev_shi rfl]
    simp
  have lod : Lo l.dropLast := lo.sub fun c hc => (List.dropLast_sublist l).subset hc
  have ni := sp_law_number (l := l.dropLast) (by simp; omega) lod
  cases hn : numIn l.dropLast with
  | none =>
    rw [hn] at ni
    simp only at ni
    have : endIn l = none := by
      unfold endIn
      rw [hn]
      split <;> rfl
    rw [this]
    have is1 : cmpop .is .non .non = .ok (.bl true) := rfl
    simp [aa__law_end, runS_val, ss__law_end, i2__law_end, f2, s2, ni, is1]
  | some k =>
    rw [hn] at ni
    simp only at ni
    have is1 : cmpop .is (.int k) .non = .ok (.bl false) := rfl
    have hne : l ≠ [] := by
      rintro rfl
      simp [numIn] at hn
    have hg := List.getLast?_eq_some_getLast hne
    generalize l.getLast hne = c at hg
    have il := ix_txl hg (by omega)
    have lc : Lo [c] := fun d hd => lo d (by rw [List.mem_singleton.mp hd]; exact List.mem_of_getLast? hg)
    have n1 : cmpop .notin (.str (tx [c])) (.str (tx [60, 62])) = .ok (.bl (!decide (c = 60 ∨ c = 62))) := by rw [notin_tx]; simp
    have n3 := eq_tx (b := [62]) lc (fun c hc => by rw [List.mem_singleton.mp hc]; omega)
    by_cases c1 : c = 60
    · subst c1
      have ei : endIn l = some (2 * k) := by
        unfold endIn
        rw [hg, hn]
        rfl
      rw [ei]
      have n3' : cmpop .eq (.str (tx [60])) (.str (tx [62])) = .ok (.bl false) := by rw [n3]; rfl
      simp [aa__law_end, runS_val, ss__law_end, i2__law_end, f2, s2, ni, is1, il, l_ltgt, l_gt, n1, n3', bo_mul (i := 2) (.inl (by omega))]
    · by_cases c2 : c = 62
      · subst c2
        have ei : endIn l = some (2 * k + 1) := by
          unfold endIn
          rw [hg, hn]
          rfl
        rw [ei]
        have n3' : cmpop .eq (.str (tx [62])) (.str (tx [62])) = .ok (.bl true) := by rw [n3]; rfl
        simp [aa__law_end, runS_val, ss__law_end, i2__law_end, f2, s2, ni, is1, il, l_ltgt, l_gt, n1, n3', bo_mul (i := 2) (.inl (by omega))]
      · have ei : endIn l = none := by
          unfold endIn
          rw [hg]
          split
          · rename_i z; cases z; exact absurd rfl c1
          · rename_i z; cases z; exact absurd rfl c2
          · rfl
        rw [ei]
        have n1' : cmpop .notin (.str (tx [c])) (.str (tx [60, 62])) = .ok (.bl true) := by rw [n1]; simp [c1, c2]
        simp [aa__law_end, runS_val, ss__law_end, i2__law_end, f2, s2, ni, is1, il, l_ltgt, n1']

end K74

namespace K74
open PySem PySem.Spec L2 Mn
open PyProof.Rows hiding St
/-! ### kinds of refusal -/
theorem kind_text : aa__law_kind [.exc "NoText"] = .ok (.str "text") := by kernel_rfl
theorem kind_line : aa__law_kind [.exc "NoLine"] = .ok (.str "line") := by kernel_rfl

end K74

namespace K74
open PySem PySem.Spec L2 Mn
open PyProof.Rows hiding St
/-! ### odd words -/
def oddL : List (List Nat) := [[], [48], [48, 48, 60], [45, 49, 62], [43, 49], [48, 49, 62], [49, 62], [48, 60], [60], [62], [111, 110], [98, 97, 99, 107], [79, 110], [57], [49, 48, 62], [45], [49, 46], [120], List.replicate 40 49 ++ [60], List.replicate 41 49 ++ [60], [48, 62, 62], [50], [51, 62], [111, 110, 115], [49, 60], [111, 110, 32, 50, 60], [98, 97, 99, 107, 32, 48, 62], [48, 60, 32, 49, 60]]
def oddN : Nat := 18
def sgA : List Nat := [32, 48, 49, 50, 51, 52, 53, 54, 55, 56, 57, 60, 62, 45, 111, 110, 98, 97, 99, 107, 10, 43, 46]
theorem l_sgA : Str.ofString " 0123456789<>-onback\n+." = tx sgA := by decide +kernel

end K74

namespace K74
open PySem PySem.Spec L2 Mn
open PyProof.Rows hiding St
/-! ### further signs -/
def sgB : List Nat := [33, 34, 35, 36, 38, 39, 40, 41, 42, 44, 47, 58, 59, 61, 63, 64, 65, 66, 67, 68, 69, 70, 71, 72, 73, 74, 75, 76, 77, 78, 79, 80, 81, 82, 83, 84, 85, 86, 87, 88, 89, 90, 91, 92, 93, 94, 95, 96, 97, 98, 99, 100, 101, 102, 103, 104, 105, 106, 107, 108, 109, 110, 111, 112, 113, 114, 115, 116, 117, 118, 119, 120, 121, 122, 123, 124, 125, 126]
theorem l_sgB : Str.ofString "!\"#$&'()*,/:;=?@ABCDEFGHIJKLMNOPQRSTUVWXYZ[\\]^_`abcdefghijklmnopqrstuvwxyz{|}~" = tx sgB := by decide +kernel

end K74

namespace K74
open PySem PySem.Spec L2 Mn
open PyProof.Rows hiding St
/-! ### what lists of words weigh -/
def wt (L : List (List Nat)) : Nat := (L.map (·.length)).sum + L.length
theorem wt_app {A B : List (List Nat)} : wt (A ++ B) = wt A + wt B := by
  simp [wt]
  omega
theorem wt_cons {w : List Nat} {L : List (List Nat)} : wt (w :: L) = w.length + 1 + wt L := by
  simp [wt]
  omega
theorem wt_one {w : List Nat} : wt [w] = w.length + 1 := by simp [wt]
theorem wt_cut (s : Nat) (L : List (List Nat)) : wt (L.take s) + wt (L.drop s) = wt L := by rw [← wt_app, List.take_append_drop]
theorem wt_at {s : Nat} {L : List (List Nat)} {r : List Nat} (h : L[s]? = some r) : wt (L.take s) + (r.length + 1) + wt (L.drop (s + 1)) = wt L := by
  obtain ⟨hs, e⟩ := List.getElem?_eq_some_iff.mp h
  have := wt_cut s L
  rw [List.drop_eq_getElem_cons hs, wt_cons, e] at this
  omega
theorem wt_spl (c : Nat) : ∀ (l acc : List Nat), wt (TL.spl [c] 0 acc l) = acc.length + l.length + 1
  | [], acc => by
    rw [TL.spl_nil, wt_one]
    simp
  | d :: r, acc => by
    have e : TL.spl [c] 0 acc (d :: r) = (if TL.pre [c] (d :: r) = true then acc :: TL.spl [c] 0 [] r else TL.spl [c] 0 (acc ++ [d]) r) := rfl
    rw [e]
    split
    · rw [wt_cons, wt_spl c r []]
      simp
      omega
    · rw [wt_spl c r _]
      simp
      omega
theorem jl_len (c : Nat) : ∀ L : List (List Nat), (TL.joinL [c] L).length ≤ wt L
  | [] => by simp [TL.joinL]
  | [p] => by
    rw [wt_one]
    simp [TL.joinL]
  | p :: q :: r => by
    have := jl_len c (q :: r)
    show (p ++ ([c] ++ TL.joinL [c] (q :: r))).length ≤ _
    rw [wt_cons]
    simp at this ⊢
    omega
theorem jl_lo {c : Nat} (hc : c < 256) : ∀ {L : List (List Nat)}, (∀ w, w ∈ L → Lo w) → Lo (TL.joinL [c] L)
  | [], _ => fun _ h => by simp [TL.joinL] at h
  | [p], h => h p (by simp)
  | p :: q :: r, h => by
    have := jl_lo hc (L := q :: r) fun w hw => h w (List.mem_cons_of_mem _ hw)
    show Lo (p ++ ([c] ++ TL.joinL [c] (q :: r)))
    exact (h p (by simp)).app (Lo.app (a := [c]) (fun d hd => by rw [List.mem_singleton.mp hd]; exact hc) this)
theorem join_wt {c : Nat} {L : List (List Nat)} {k : LK} (h : wt L ≤ 16777216) : joop (.str (tx [c])) (.lst k (dtx L)) = .ok (.str (tx (TL.joinL [c] L))) := join_tx (by simpa [wt] using h)
theorem bo_dtx {A B : List (List Nat)} (h : A.length + B.length ≤ 16777216) : binop .add (.lst .own (dtx A)) (.lst .own (dtx B)) = .ok (.lst .own (dtx (A ++ B))) := by
  rw [bo_app (by simpa using h), ← dtx_app]
theorem sl_dto {k : LK} {L : List (List Nat)} {i : Int} (h : 0 ≤ i) : slop (.lst k (dtx L)) none (some i) = .ok (.lst .own (dtx (L.take i.toNat))) := by
  obtain ⟨j, rfl⟩ : ∃ j : Nat, i = (j : Int) := ⟨i.toNat, by omega⟩
  show R.ok (D.lst .own (Mn.cutD (dtx L) none (some (j : Int)))) = _
  unfold Mn.cutD
  have e1 : HT.sIx (dtx L).length 0 none = 0 := rfl
  rw [e1, HT.sIx_nat]
  simp [dtx]
theorem sl_dfrom {k : LK} {L : List (List Nat)} {i : Int} (h : 0 ≤ i) : slop (.lst k (dtx L)) (some i) none = .ok (.lst .own (dtx (L.drop i.toNat))) := by
  obtain ⟨j, rfl⟩ : ∃ j : Nat, i = (j : Int) := ⟨i.toNat, by omega⟩
  show R.ok (D.lst .own (Mn.cutD (dtx L) (some (j : Int)) none)) = _
  unfold Mn.cutD
  have e1 : HT.sIx (dtx L).length (dtx L).length none = (dtx L).length := rfl
  rw [e1, HT.sIx_nat]
  simp [dtx]
  by_cases c : j ≤ L.length
  · rw [Nat.min_eq_left c, List.take_of_length_le (by simp)]
  · rw [Nat.min_eq_right (by omega), List.drop_of_length_le (by simp), List.drop_of_length_le (by simp; omega)]
    simp
theorem d_at {k : LK} {L : List (List Nat)} {i : Int} (h0 : 0 ≤ i) (h1 : i < L.length) : ∃ r, L[i.toNat]? = some r ∧ r ∈ L ∧ ixop (.lst k (dtx L)) (.int i) = .ok (.str (tx r)) := by
  have e : L[i.toNat]? = some (L[i.toNat]'(by omega)) := List.getElem?_eq_getElem _
  refine ⟨_, e, List.getElem_mem _, ?_⟩
  have := dtx_ix (k := k) e
  rwa [show ((i.toNat : Nat) : Int) = i by omega] at this
theorem t_at {l : List Nat} {i : Int} (h0 : 0 ≤ i) (h1 : i < l.length) (hl : l.length ≤ 16777216) : ∃ c, c ∈ l ∧ ixop (.str (tx l)) (.int i) = .ok (.str (tx [c])) := by
  have e : l[i.toNat]? = some (l[i.toNat]'(by omega)) := List.getElem?_eq_getElem _
  refine ⟨l[i.toNat]'(by omega), List.getElem_mem _, ?_⟩
  have := ix_tx e hl
  rwa [show ((i.toNat : Nat) : Int) = i by omega] at this
/-! ### a row bent: the words put together -/
def hdS : S → S
  | .cons s _ => s
  | s => s
def tlS : S → S
  | .cons _ s => s
  | s => s

end K74

namespace K74
open PySem PySem.Spec L2 Mn
open PyProof.Rows hiding St
/-! ### rows and texts bent -/
theorem odd_ok : ∀ w, w ∈ oddL → Lo w ∧ w.length ≤ 43 := by
  have h : oddL.all (fun w => w.all (· < 256) && decide (w.length ≤ 43)) = true := by decide +kernel
  intro w hw
  have := List.all_eq_true.mp h w hw
  simp only [Bool.and_eq_true, decide_eq_true_eq] at this
  exact ⟨Lo.of this.1, this.2⟩
theorem odd_pos : 0 < oddL.length := by decide
theorem odd_max : oddL.length < 1000 := by decide
def rrow : S := tlS (tlS ss__law_bent_row)
theorem row_eq : ss__law_bent_row = .cons (hdS ss__law_bent_row) (.cons (hdS (tlS ss__law_bent_row)) rrow) := by kernel_rfl
theorem odd_set {x0 x1 x2 x3 x4 x5 x6 x7 : D} : ∃ y, exec (look tb__law_bent_row) gam 1000 (hdS ss__law_bent_row) [x0, x1, x2, x3, x4, x5, x6, x7] = .next [x0, x1, x2, y, x4, x5, x6, x7] ∧ exec (look tb__law_bent_row) gam 1000 (hdS (tlS ss__law_bent_row)) [x0, x1, x2, y, x4, x5, x6, x7] = .next [x0, x1, x2, .lst .own (dtx oddL), x4, x5, x6, x7] := ⟨.lst .own (dtx (oddL.take oddN)), by kernel_rfl, by kernel_rfl⟩
theorem sp_bent_row {l : List Nat} {a b : Int} (lo : Lo l) (hl : l.length ≤ 1000000) : ∃ l', Lo l' ∧ l'.length ≤ 2 * l.length + 45 ∧ aa__law_bent_row [.str (tx l), .int a, .int b] = .ok (.str (tx l')) := by
  have s1 := split_tx (a := l) (c := 32) (by omega) (by omega)
  have hW := wt_spl 32 l []
  have mW : ∀ w, w ∈ TL.spl [32] 0 [] l → Lo w ∧ w.length ≤ l.length := fun w hw => ⟨spl_lo lo hw, spl_le hw⟩
  have pW : TL.spl [32] 0 [] l ≠ [] := spl_ne _ _ _ _
  have nW := (spl_len [32] l 0 []).1
  generalize TL.spl [32] 0 [] l = W at s1 hW mW pW nW
  have pW' : 0 < W.length := List.length_pos_iff.mpr pW
  simp only [List.length_nil] at hW
  have ok := odd_ok
  have po := odd_pos
  have mo := odd_max
  obtain ⟨y, o1, o2⟩ := odd_set (x0 := .str (tx l)) (x1 := .int a) (x2 := .int b) (x3 := .any) (x4 := .any) (x5 := .any) (x6 := .any) (x7 := .any)
  generalize oddL = O at ok po mo o2
  have st0 : ([.str (tx l), .int a, .int b] ++ List.replicate (8 - 3) D.any) = [.str (tx l), .int a, .int b, .any, .any, .any, .any, .any] := rfl
  obtain ⟨w, _, mw, iw⟩ := d_at (k := .frz) (L := O) (i := b % O.length) (Int.emod_nonneg _ (by omega)) (Int.emod_lt_of_pos _ (by omega))
  obtain ⟨lw, ww⟩ := ok w mw
  have z0 := Int.emod_nonneg a (show (W.length : Int) ≠ 0 by omega)
  have z1 := Int.emod_lt_of_pos a (show 0 < (W.length : Int) by omega)
  have m1 := bo_mod (i := b) (j := (O.length : Int)) (by omega)
  have m2 := bo_mod (i := a) (j := (W.length : Int)) (by omega)
  generalize a % (W.length : Int) = s at z0 z1 m2
  obtain ⟨r, hr, mr, ir⟩ := d_at (k := .frz) (L := W) z0 z1
  have lr := mW r mr
  have wr := wt_at hr
  have f1 : ∀ δ : List D, Mn.ev (look tb__law_bent_row) gam (.slice (.slot 4) .nil (.slot 6)) δ = (rd (getD' δ 4) >>= fun x => rd (getD' δ 6) >>= fun l => intOf l >>= fun l => slop x none (some l)) := fun δ => by
    rw [ev_shi rfl]
    simp
  have f2 : ∀ δ : List D, Mn.ev (look tb__law_bent_row) gam (.slice (.slot 4) (.slot 6) .nil) δ = (rd (getD' δ 4) >>= fun x => rd (getD' δ 6) >>= fun l => intOf l >>= fun l => slop x (some l) none) := fun δ => by
    rw [ev_slo rfl]
    simp
  have f3 : ∀ δ : List D, Mn.ev (look tb__law_bent_row) gam (.slice (.slot 4) (.bin .add (.slot 6) (.int 1)) .nil) δ = (rd (getD' δ 4) >>= fun x => (rd (getD' δ 6) >>= fun y => binop .add y (.int 1)) >>= fun l => intOf l >>= fun l => slop x (some l) none) := fun δ => by
    rw [ev_slo rfl]
    simp
  have g1 := sl_dto (k := .frz) (L := W) z0
  have g2 := sl_dfrom (k := .frz) (L := W) z0
  have g3 := sl_dfrom (k := .frz) (L := W) (i := s + 1) (by omega)
  have t3 : (s + 1).toNat = s.toNat + 1 := by omega
  rw [t3] at g3
  have wc := wt_cut s.toNat W
  have lA : ∀ q, q ∈ W.take s.toNat → Lo q := fun q hq => (mW q (List.take_subset _ _ hq)).1
  have lB : ∀ q, q ∈ W.drop s.toNat → Lo q := fun q hq => (mW q (List.drop_subset _ _ hq)).1
  have lC : ∀ q, q ∈ W.drop (s.toNat + 1) → Lo q := fun q hq => (mW q (List.drop_subset _ _ hq)).1
  have nA : (W.take s.toNat).length ≤ W.length := List.length_take_le' _ _
  have nB : (W.drop s.toNat).length ≤ W.length := by simp
  have nC : (W.drop (s.toNat + 1)).length ≤ W.length := by simp
  generalize W.take s.toNat = A at g1 wr wc lA nA
  generalize W.drop s.toNat = B at g2 wc lB nB
  generalize W.drop (s.toNat + 1) = C at g3 wr lC nC
  have cat : ∀ L : List (List Nat), wt L ≤ 10000000 → (∀ w, w ∈ L → Lo w) → Lo (TL.joinL [32] L) ∧ (TL.joinL [32] L).length ≤ wt L ∧ joop (.str (tx [32])) (.lst .own (dtx L)) = .ok (.str (tx (TL.joinL [32] L))) := fun L h1 h2 => ⟨jl_lo (by omega) h2, jl_len 32 L, join_wt (by omega)⟩
  have bA : ∀ v : List Nat, binop .add (.lst .own (dtx A)) (.lst .own [.str (tx v)]) = .ok (.lst .own (dtx (A ++ [v]))) := fun v => bo_dtx (B := [v]) (by simp; omega)
  have bB : ∀ v : List Nat, binop .add (.lst .own (dtx (A ++ [v]))) (.lst .own (dtx B)) = .ok (.lst .own (dtx (A ++ v :: B))) := fun v => by
    rw [bo_dtx (by simp; omega)]
    simp
  have bC : ∀ v : List Nat, binop .add (.lst .own (dtx (A ++ [v]))) (.lst .own (dtx C)) = .ok (.lst .own (dtx (A ++ v :: C))) := fun v => by
    rw [bo_dtx (by simp; omega)]
    simp
  have bD : binop .add (.lst .own (dtx A)) (.lst .own (dtx C)) = .ok (.lst .own (dtx (A ++ C))) := bo_dtx (by omega)
  have m3 := bo_fdiv (i := a) (j := 64) (by omega) (by omega)
  have m4 := bo_mod (i := a / 64) (j := 4) (by omega)
  generalize a / 64 % 4 = q at m4
  have lD : ∀ (v : List Nat) (E : List (List Nat)), Lo v → (∀ q, q ∈ E → Lo q) → ∀ q, q ∈ A ++ v :: E → Lo q := fun v E h1 h2 q hq => by
    rcases List.mem_append.mp hq with hq | hq
    · exact lA q hq
    · rcases List.mem_cons.mp hq with rfl | hq
      · exact h1
      · exact h2 q hq
  have vD : ∀ (v : List Nat) (E : List (List Nat)), wt (A ++ v :: E) = wt A + (v.length + 1) + wt E := fun v E => by rw [wt_app, wt_cons]; omega
  simp only [aa__law_bent_row, runS_val]
  rw [st0, row_eq, ex_cons, o1, thn_next, ex_cons, o2, thn_next]
  by_cases q0 : q = 0
  · obtain ⟨c1, c2, c3⟩ := cat (A ++ w :: B) (by rw [vD]; omega) (lD w B lw lB)
    refine ⟨_, c1, by rw [vD] at c2; omega, ?_⟩
    simp [rrow, tlS, ss__law_bent_row, i7__law_bent_row, i9__law_bent_row, i11__law_bent_row, l_sp, s1, show W.length < 16777216 by omega, show O.length < 16777216 by omega, m1, m2, m3, m4, iw, q0, f1, f2, f3, g1, g2, g3, bA, bB, bC, bD, c3, ir]
  · by_cases q1 : q = 1
    · obtain ⟨c1, c2, c3⟩ := cat (A ++ C) (by rw [wt_app]; omega) (fun q hq => (List.mem_append.mp hq).elim (lA q) (lC q))
      refine ⟨_, c1, by rw [wt_app] at c2; omega, ?_⟩
      simp [rrow, tlS, ss__law_bent_row, i7__law_bent_row, i9__law_bent_row, i11__law_bent_row, l_sp, s1, show W.length < 16777216 by omega, show O.length < 16777216 by omega, m1, m2, m3, m4, iw, q0, q1, f1, f2, f3, g1, g2, g3, bA, bB, bC, bD, c3, ir]
    · by_cases q2 : q = 2
      · obtain ⟨c1, c2, c3⟩ := cat (A ++ r :: B) (by rw [vD]; omega) (lD r B lr.1 lB)
        refine ⟨_, c1, by rw [vD] at c2; have := lr.2; omega, ?_⟩
        simp [rrow, tlS, ss__law_bent_row, i7__law_bent_row, i9__law_bent_row, i11__law_bent_row, l_sp, s1, show W.length < 16777216 by omega, show O.length < 16777216 by omega, m1, m2, m3, m4, iw, q0, q1, q2, f1, f2, f3, g1, g2, g3, bA, bB, bC, bD, c3, ir]
      · obtain ⟨c1, c2, c3⟩ := cat (A ++ w :: C) (by rw [vD]; omega) (lD w C lw lC)
        refine ⟨_, c1, by rw [vD] at c2; omega, ?_⟩
        simp [rrow, tlS, ss__law_bent_row, i7__law_bent_row, i9__law_bent_row, i11__law_bent_row, l_sp, s1, show W.length < 16777216 by omega, show O.length < 16777216 by omega, m1, m2, m3, m4, iw, q0, q1, q2, f1, f2, f3, g1, g2, g3, bA, bB, bC, bD, c3, ir]

end K74

namespace K74
open PySem PySem.Spec L2 Mn
open PyProof.Rows hiding St
/-! ### texts bent -/
theorem wt_set {L : List (List Nat)} {i : Nat} {r x : List Nat} (h : L[i]? = some r) : wt (L.set i x) + r.length = wt L + x.length := by
  have e := wt_at h
  obtain ⟨hs, _⟩ := List.getElem?_eq_some_iff.mp h
  rw [List.set_eq_take_append_cons_drop, if_pos hs, wt_app, wt_cons]
  omega
theorem rep0 {c : Nat} : binop .mul (.str (tx [c])) (.int 0) = .ok (.str (tx [])) := by
  show (if decide ((0 : Int) ≤ 0 ∧ (0 : Int) ≤ 1000000 ∧ (tx [c]).length * (0 : Int).toNat ≤ LIM) then R.ok (D.str (repS (tx [c]) (0 : Int).toNat)) else .bad) = _
  rw [if_pos (by simp [LIM])]
  rfl
theorem rep1 {c : Nat} : binop .mul (.str (tx [c])) (.int 1) = .ok (.str (tx [c])) := by
  show (if decide ((0 : Int) ≤ 1 ∧ (1 : Int) ≤ 1000000 ∧ (tx [c]).length * (1 : Int).toNat ≤ LIM) then R.ok (D.str (repS (tx [c]) (1 : Int).toNat)) else .bad) = _
  rw [if_pos (by rw [tx_len]; simp [LIM])]
  rfl
def lsS : Nat → S → List S
  | n + 1, .cons a r => a :: lsS n r
  | _, _ => []
def drS : Nat → S → S
  | n + 1, .cons _ r => drS n r
  | _, s => s
def hd4 : S := (lsS 4 ss__law_bent).foldr .cons .nil
def md2 : S := (lsS 2 (drS 8 ss__law_bent)).foldr .cons .nil
def tl10 : S := drS 10 ss__law_bent
theorem ex_catS {Φ : Fn} {γ : Mn.Gn} {fu : Nat} {t : S} : ∀ (l : List S) (δ : List D), exec Φ γ fu (l.foldr .cons t) δ = (exec Φ γ fu (l.foldr .cons .nil) δ).thn (exec Φ γ fu t)
  | [], δ => rfl
  | a :: l, δ => by
    rw [List.foldr_cons, List.foldr_cons, ex_cons, ex_cons]
    cases exec Φ γ fu a δ with
    | next δ1 => rw [thn_next, thn_next]; exact ex_catS l δ1
    | _ => rfl
theorem cat_thn {o : O} {f g : List D → O} : (o.thn f).thn g = o.thn fun δ => (f δ).thn g := by cases o <;> rfl
theorem cut6 {Φ : Fn} {γ : Mn.Gn} {fu : Nat} {δ : List D} {s t a b c d : S} {l m : List S} (e : s = l.foldr .cons (.cons a (.cons b (.cons c (.cons d (m.foldr .cons t)))))) : exec Φ γ fu s δ = (exec Φ γ fu (l.foldr .cons .nil) δ).thn fun δ => (exec Φ γ fu a δ).thn fun δ => (exec Φ γ fu b δ).thn fun δ => (exec Φ γ fu c δ).thn fun δ => (exec Φ γ fu d δ).thn fun δ => (exec Φ γ fu (m.foldr .cons .nil) δ).thn (exec Φ γ fu t) := by
  subst e
  have e1 : exec Φ γ fu (m.foldr .cons t) = fun δ => (exec Φ γ fu (m.foldr .cons .nil) δ).thn (exec Φ γ fu t) := funext fun δ => ex_catS m δ
  rw [ex_catS]
  have e2 : exec Φ γ fu (.cons a (.cons b (.cons c (.cons d (m.foldr .cons t))))) = fun δ => (exec Φ γ fu a δ).thn fun δ => (exec Φ γ fu b δ).thn fun δ => (exec Φ γ fu c δ).thn fun δ => (exec Φ γ fu d δ).thn fun δ => (exec Φ γ fu (m.foldr .cons .nil) δ).thn (exec Φ γ fu t) := by
    rw [← e1]
    rfl
  rw [e2]
theorem bent_eq : ss__law_bent = (lsS 4 ss__law_bent).foldr .cons (.cons i5__law_bent (.cons i8__law_bent (.cons i10__law_bent (.cons i12__law_bent ((lsS 2 (drS 8 ss__law_bent)).foldr .cons tl10))))) := by kernel_rfl
abbrev bS (l : List Nat) (a b : Int) (R : List (List Nat)) (s t q : Int) (x7 x8 x9 : D) : List D := [.str (tx l), .int a, .int b, .lst .own (dtx R), .int s, .int t, .int q, x7, x8, x9, .any]
section
variable {l : List Nat} {a b s t q : Int} {R : List (List Nat)}
theorem bent_pre (s1 : splop (.str (tx l)) (.str (tx [10])) = .ok (.lst .own (dtx R))) (lR : R.length < 16777216) (p : 0 < R.length) (hs : a / 16 % (R.length : Int) = s) (ht : a / 512 % (R.length : Int) = t) (hq : a % 12 = q) :
    exec (look tb__law_bent) gam 1000 hd4 [.str (tx l), .int a, .int b, .any, .any, .any, .any, .any, .any, .any, .any] = .next (bS l a b R s t q .any .any .any) := by
  have d16 := bo_fdiv (i := a) (j := 16) (by omega) (by omega)
  have d512 := bo_fdiv (i := a) (j := 512) (by omega) (by omega)
  have m2 := bo_mod (i := a / 16) (j := (R.length : Int)) (by omega)
  have m3 := bo_mod (i := a / 512) (j := (R.length : Int)) (by omega)
  have m4 := bo_mod (i := a) (j := 12) (by omega)
  rw [hs] at m2
  rw [ht] at m3
  rw [hq] at m4
  simp [hd4, lsS, ss__law_bent, l_nl, s1, lR, d16, d512, m2, m3, m4]
theorem f_to : ∀ δ : List D, Mn.ev (look tb__law_bent) gam (.slice (.slot 3) .nil (.slot 4)) δ = (rd (getD' δ 3) >>= fun x => rd (getD' δ 4) >>= fun l => intOf l >>= fun l => slop x none (some l)) := fun δ => by
  rw [ev_shi rfl]
  simp
theorem f_from : ∀ δ : List D, Mn.ev (look tb__law_bent) gam (.slice (.slot 3) (.slot 4) .nil) δ = (rd (getD' δ 3) >>= fun x => rd (getD' δ 4) >>= fun l => intOf l >>= fun l => slop x (some l) none) := fun δ => by
  rw [ev_slo rfl]
  simp
theorem f_from1 : ∀ δ : List D, Mn.ev (look tb__law_bent) gam (.slice (.slot 3) (.bin .add (.slot 4) (.int 1)) .nil) δ = (rd (getD' δ 3) >>= fun x => (rd (getD' δ 4) >>= fun y => binop .add y (.int 1)) >>= fun l => intOf l >>= fun l => slop x (some l) none) := fun δ => by
  rw [ev_slo rfl]
  simp
theorem g_to : ∀ δ : List D, Mn.ev (look tb__law_bent) gam (.slice (.slot 0) .nil (.slot 9)) δ = (rd (getD' δ 0) >>= fun x => rd (getD' δ 9) >>= fun l => intOf l >>= fun l => slop x none (some l)) := fun δ => by
  rw [ev_shi rfl]
  simp
theorem g_from : ∀ δ : List D, Mn.ev (look tb__law_bent) gam (.slice (.slot 0) (.slot 9) .nil) δ = (rd (getD' δ 0) >>= fun x => rd (getD' δ 9) >>= fun l => intOf l >>= fun l => slop x (some l) none) := fun δ => by
  rw [ev_slo rfl]
  simp
theorem g_from1 : ∀ δ : List D, Mn.ev (look tb__law_bent) gam (.slice (.slot 0) (.bin .add (.slot 9) (.int 1)) .nil) δ = (rd (getD' δ 0) >>= fun x => (rd (getD' δ 9) >>= fun y => binop .add y (.int 1)) >>= fun l => intOf l >>= fun l => slop x (some l) none) := fun δ => by
  rw [ev_slo rfl]
  simp
theorem sl_dfrom1 {k : LK} {L : List (List Nat)} {i : Int} (h : 0 ≤ i) : slop (.lst k (dtx L)) (some (i + 1)) none = .ok (.lst .own (dtx (L.drop (i.toNat + 1)))) := by
  have := sl_dfrom (k := k) (L := L) (i := i + 1) (by omega)
  rwa [show (i + 1).toNat = i.toNat + 1 by omega] at this
theorem bo_mid {A B : List (List Nat)} {v : List Nat} (h : A.length + B.length + 1 ≤ 16777216) : binop .add (.lst .own (dtx A)) (.lst .own [.str (tx v)]) = .ok (.lst .own (dtx (A ++ [v]))) ∧ binop .add (.lst .own (dtx (A ++ [v]))) (.lst .own (dtx B)) = .ok (.lst .own (dtx (A ++ v :: B))) := by
  refine ⟨bo_dtx (B := [v]) (by simp; omega), ?_⟩
  rw [bo_dtx (by simp; omega)]
  simp
theorem way_row {r r' : List Nat} (q0 : q < 4) (hs : 0 ≤ s) (lR : R.length ≤ 8000000) (ir : ixop (.lst .frz (dtx R)) (.int s) = .ok (.str (tx r))) (er : aa__law_bent_row [.str (tx r), .int (a / 512), .int b] = .ok (.str (tx r'))) (w : wt (R.take s.toNat ++ r' :: R.drop (s.toNat + 1)) ≤ 16777216) :
    exec (look tb__law_bent) gam 1000 i5__law_bent (bS l a b R s t q .any .any .any) = .ret (.str (tx (TL.joinL [10] (R.take s.toNat ++ r' :: R.drop (s.toNat + 1))))) := by
  have d512 := bo_fdiv (i := a) (j := 512) (by omega) (by omega)
  have g1 := sl_dto (k := .frz) (L := R) hs
  have g3 := sl_dfrom1 (k := .frz) (L := R) hs
  have c3 := join_wt (k := .own) (c := 10) w
  have nA : (R.take s.toNat).length ≤ R.length := List.length_take_le' _ _
  have nC : (R.drop (s.toNat + 1)).length ≤ R.length := by simp
  generalize R.take s.toNat = A at *
  generalize R.drop (s.toNat + 1) = C at *
  obtain ⟨b1, b2⟩ := bo_mid (A := A) (B := C) (v := r') (by omega)
  simp [i5__law_bent, l_nl, d512, q0, ir, er, f_to, f_from1, g1, g3, b1, b2, c3]
theorem skip_row {x7 x8 x9 : D} (q0 : ¬ q < 4) : exec (look tb__law_bent) gam 1000 i5__law_bent (bS l a b R s t q x7 x8 x9) = .next (bS l a b R s t q x7 x8 x9) := by
  simp [i5__law_bent, q0]
theorem way_out (hs : 0 ≤ s) (lR : R.length ≤ 8000000) (w : wt (R.take s.toNat ++ R.drop (s.toNat + 1)) ≤ 16777216) :
    exec (look tb__law_bent) gam 1000 i8__law_bent (bS l a b R s t 4 .any .any .any) = .ret (.str (tx (TL.joinL [10] (R.take s.toNat ++ R.drop (s.toNat + 1))))) := by
  have g1 := sl_dto (k := .frz) (L := R) hs
  have g3 := sl_dfrom1 (k := .frz) (L := R) hs
  have c3 := join_wt (k := .own) (c := 10) w
  have nA : (R.take s.toNat).length ≤ R.length := List.length_take_le' _ _
  have nC : (R.drop (s.toNat + 1)).length ≤ R.length := by simp
  generalize R.take s.toNat = A at *
  generalize R.drop (s.toNat + 1) = C at *
  have b1 := bo_dtx (A := A) (B := C) (by omega)
  simp [i8__law_bent, l_nl, f_to, f_from1, g1, g3, b1, c3]
theorem skip_out {x7 x8 x9 : D} (q0 : ¬ q = 4) : exec (look tb__law_bent) gam 1000 i8__law_bent (bS l a b R s t q x7 x8 x9) = .next (bS l a b R s t q x7 x8 x9) := by
  simp [i8__law_bent, q0]
theorem way_again {u : List Nat} (hs : 0 ≤ s) (lR : R.length ≤ 8000000) (iu : ixop (.lst .frz (dtx R)) (.int t) = .ok (.str (tx u))) (w : wt (R.take s.toNat ++ u :: R.drop s.toNat) ≤ 16777216) :
    exec (look tb__law_bent) gam 1000 i10__law_bent (bS l a b R s t 5 .any .any .any) = .ret (.str (tx (TL.joinL [10] (R.take s.toNat ++ u :: R.drop s.toNat)))) := by
  have g1 := sl_dto (k := .frz) (L := R) hs
  have g3 := sl_dfrom (k := .frz) (L := R) hs
  have c3 := join_wt (k := .own) (c := 10) w
  have nA : (R.take s.toNat).length ≤ R.length := List.length_take_le' _ _
  have nC : (R.drop s.toNat).length ≤ R.length := by simp
  generalize R.take s.toNat = A at *
  generalize R.drop s.toNat = C at *
  obtain ⟨b1, b2⟩ := bo_mid (A := A) (B := C) (v := u) (by omega)
  simp [i10__law_bent, l_nl, iu, f_to, f_from, g1, g3, b1, b2, c3]
theorem skip_again {x7 x8 x9 : D} (q0 : ¬ q = 5) : exec (look tb__law_bent) gam 1000 i10__law_bent (bS l a b R s t q x7 x8 x9) = .next (bS l a b R s t q x7 x8 x9) := by
  simp [i10__law_bent, q0]
theorem way_swap {r u : List Nat} (hs : 0 ≤ s) (hs2 : s < R.length) (ht : 0 ≤ t) (ht2 : t < R.length) (ir : ixop (.lst .frz (dtx R)) (.int s) = .ok (.str (tx r))) (iu : ixop (.lst .frz (dtx R)) (.int t) = .ok (.str (tx u))) (w : wt ((R.set s.toNat u).set t.toNat r) ≤ 16777216) :
    exec (look tb__law_bent) gam 1000 i12__law_bent (bS l a b R s t 6 .any .any .any) = .ret (.str (tx (TL.joinL [10] ((R.set s.toNat u).set t.toNat r)))) := by
  have ds : ∀ (L : List (List Nat)) (i : Nat) (v : List Nat), (dtx L).set i (.str (tx v)) = dtx (L.set i v) := fun L i v => by simp [dtx, List.map_set]
  have n0 := ixN_in (n := R.length) (i := s) hs hs2
  have n1 := ixN_in (n := R.length) (i := t) ht ht2
  have c3 := join_wt (k := .frz) (c := 10) w
  have s2 : sw2 (look tb__law_bent) gam (.nm 3) (.slot 5) (.str (tx r)) [.str (tx l), .int a, .int b, .lst .own (dtx (R.set s.toNat u)), .int s, .int t, .int 6, .any, .any, .any, .any] = .ok [.str (tx l), .int a, .int b, .lst .own (dtx ((R.set s.toNat u).set t.toNat r)), .int s, .int t, .int 6, .any, .any, .any, .any] := by
    rw [sw2_ok (ds := dtx (R.set s.toNat u)) (k := t) (b := t.toNat) (by simp [ownAt, getP]) (by simp) (by rw [dtx_len, List.length_set]; exact n1)]
    simp [setP, ds]
  simp [i12__law_bent, l_nl, ir, iu, n0, ownAt, getP, setP, ds, s2, c3]
theorem skip_swap {x7 x8 x9 : D} (q0 : ¬ q = 6) : exec (look tb__law_bent) gam 1000 i12__law_bent (bS l a b R s t q x7 x8 x9) = .next (bS l a b R s t q x7 x8 x9) := by
  simp [i12__law_bent, q0]
theorem some_set {x8 x9 : D} : ∃ S : List Nat, (0 < S.length ∧ S.length ≤ 200) ∧ Lo S ∧ exec (look tb__law_bent) gam 1000 md2 (bS l a b R s t q .any x8 x9) = .next (bS l a b R s t q (.str (tx S)) x8 x9) := by
  by_cases c : b % 4 = 3
  · refine ⟨sgB, ⟨by decide, by decide⟩, Lo.of (by decide), ?_⟩
    simp [md2, lsS, drS, ss__law_bent, i16__law_bent, bo_mod, c, l_sgB]
  · refine ⟨sgA, ⟨by decide, by decide⟩, Lo.of (by decide), ?_⟩
    simp [md2, lsS, drS, ss__law_bent, i16__law_bent, bo_mod, c, l_sgA]
theorem way_sign {S : List Nat} {c : Nat} {e p : Int} (hl : l.length ≤ 1000000) (hS : 0 < S.length ∧ S.length ≤ 200) (h7 : 7 ≤ q) (h11 : q ≤ 11) (he : b / 4 % (S.length : Int) = e) (hp : a / 16 % ((l.length : Int) + 1) = p) (p0 : 0 ≤ p) (ic : ixop (.str (tx S)) (.int e) = .ok (.str (tx [c]))) :
    ∃ m : List Nat, m.length ≤ 1 ∧ (∀ d, d ∈ m → d = c) ∧ ∃ Z, (Z = l.drop p.toNat ∨ Z = l.drop (p + 1).toNat ∨ Z = []) ∧ exec (look tb__law_bent) gam 1000 tl10 (bS l a b R s t q (.str (tx S)) .any .any) = .ret (.str (tx (l.take p.toNat ++ (m ++ Z)))) := by
  have d4 := bo_fdiv (i := b) (j := 4) (by omega) (by omega)
  have d16 := bo_fdiv (i := a) (j := 16) (by omega) (by omega)
  have m5 := bo_mod (i := a / 16) (j := (l.length : Int) + 1) (by omega)
  have m6 := bo_mod (i := b / 4) (j := (S.length : Int)) (by omega)
  rw [hp] at m5
  rw [he] at m6
  have lS := len_tx (l := S) (by omega)
  have lt := len_tx (l := l) (by omega)
  have k1 := sl_to (l := l) (i := p) (by omega) p0
  have k2 := sl_from (l := l) (i := p) (by omega) p0
  have k3 := sl_from (l := l) (i := p + 1) (by omega) (by omega)
  have n1 : (l.take p.toNat).length ≤ l.length := List.length_take_le' _ _
  have n2 : (l.drop p.toNat).length ≤ l.length := by simp
  have n3 : (l.drop (p + 1).toNat).length ≤ l.length := by simp
  generalize l.take p.toNat = U at *
  generalize l.drop p.toNat = V at *
  generalize l.drop (p + 1).toNat = W at *
  have b1 : binop .add (.str (tx U)) (.str (tx [c])) = .ok (.str (tx (U ++ [c]))) := bo_tx (by simp; omega)
  have b2 : binop .add (.str (tx (U ++ [c]))) (.str (tx V)) = .ok (.str (tx (U ++ c :: V))) := by
    rw [bo_tx (by simp; omega)]
    simp
  have b3 : binop .add (.str (tx (U ++ [c]))) (.str (tx W)) = .ok (.str (tx (U ++ c :: W))) := by
    rw [bo_tx (by simp; omega)]
    simp
  have b4 : binop .add (.str (tx U)) (.str (tx [])) = .ok (.str (tx U)) := by
    rw [bo_tx (by simp; omega)]
    simp
  have b5 : binop .add (.str (tx U)) (.str (tx W)) = .ok (.str (tx (U ++ W))) := bo_tx (by omega)
  have r0 := rep0 (c := c)
  have r1 := rep1 (c := c)
  by_cases q7 : q < 9
  · refine ⟨[c], by simp, by simp, V, .inl rfl, ?_⟩
    simp [tl10, drS, ss__law_bent, i20__law_bent, i22__law_bent, lS, lt, d4, d16, m5, m6, ic, q7, g_to, g_from, k1, k2, b1, b2]
  · by_cases q9 : q = 9
    · refine ⟨[], by simp, by simp, [], .inr (.inr rfl), ?_⟩
      simp [tl10, drS, ss__law_bent, i20__law_bent, i22__law_bent, lS, lt, d4, d16, m5, m6, ic, q9, g_to, k1]
    · by_cases qa : q = 10
      · refine ⟨[], by simp, by simp, W, .inr (.inl rfl), ?_⟩
        subst qa
        simp [tl10, drS, ss__law_bent, i20__law_bent, i22__law_bent, lS, lt, d4, d16, m5, m6, ic, g_to, g_from1, k1, k3, r0, b4, b5]
      · obtain rfl : q = 11 := by omega
        refine ⟨[c], by simp, by simp, W, .inr (.inl rfl), ?_⟩
        simp [tl10, drS, ss__law_bent, i20__law_bent, i22__law_bent, lS, lt, d4, d16, m5, m6, ic, g_to, g_from1, k1, k3, r1, b1, b3]
end
theorem sp_bent {l : List Nat} {a b : Int} (lo : Lo l) (hl : l.length ≤ 1000000) : ∃ l', Lo l' ∧ l'.length ≤ 2 * l.length + 50 ∧ aa__law_bent [.str (tx l), .int a, .int b] = .ok (.str (tx l')) := by
  have s1 := split_tx (a := l) (c := 10) (by omega) (by omega)
  have hR := wt_spl 10 l []
  have mR : ∀ w, w ∈ TL.spl [10] 0 [] l → Lo w ∧ w.length ≤ l.length := fun w hw => ⟨spl_lo lo hw, spl_le hw⟩
  have pR : TL.spl [10] 0 [] l ≠ [] := spl_ne _ _ _ _
  have nR := (spl_len [10] l 0 []).1
  generalize TL.spl [10] 0 [] l = R at s1 hR mR pR nR
  have pR' : 0 < R.length := List.length_pos_iff.mpr pR
  simp only [List.length_nil] at hR
  have z0 := Int.emod_nonneg (a / 16) (show (R.length : Int) ≠ 0 by omega)
  have z1 := Int.emod_lt_of_pos (a / 16) (show 0 < (R.length : Int) by omega)
  have y0 := Int.emod_nonneg (a / 512) (show (R.length : Int) ≠ 0 by omega)
  have y1 := Int.emod_lt_of_pos (a / 512) (show 0 < (R.length : Int) by omega)
  have w0 := Int.emod_nonneg a (show (12 : Int) ≠ 0 by omega)
  have w1 := Int.emod_lt_of_pos a (show (0 : Int) < 12 by omega)
  have pre := bent_pre (a := a) (b := b) s1 (by omega) pR' rfl rfl rfl
  generalize a / 16 % (R.length : Int) = s at z0 z1 pre
  generalize a / 512 % (R.length : Int) = t at y0 y1 pre
  generalize a % 12 = q at w0 w1 pre
  obtain ⟨r, hr, mr, ir⟩ := d_at (k := .frz) (L := R) z0 z1
  obtain ⟨u, hu, mu, iu⟩ := d_at (k := .frz) (L := R) y0 y1
  have lr := mR r mr
  have lu := mR u mu
  have wr := wt_at hr
  have wc := wt_cut s.toNat R
  have st0 : ([.str (tx l), .int a, .int b] ++ List.replicate (11 - 3) D.any) = [.str (tx l), .int a, .int b, .any, .any, .any, .any, .any, .any, .any, .any] := rfl
  have lA : ∀ q, q ∈ R.take s.toNat → Lo q := fun q hq => (mR q (List.take_subset _ _ hq)).1
  have lB : ∀ q, q ∈ R.drop s.toNat → Lo q := fun q hq => (mR q (List.drop_subset _ _ hq)).1
  have lC : ∀ q, q ∈ R.drop (s.toNat + 1) → Lo q := fun q hq => (mR q (List.drop_subset _ _ hq)).1
  have lD : ∀ (v : List Nat) (E : List (List Nat)), Lo v → (∀ q, q ∈ E → Lo q) → ∀ q, q ∈ R.take s.toNat ++ v :: E → Lo q := fun v E h1 h2 q hq => by
    rcases List.mem_append.mp hq with hq | hq
    · exact lA q hq
    · rcases List.mem_cons.mp hq with rfl | hq
      · exact h1
      · exact h2 q hq
  have vD : ∀ (v : List Nat) (E : List (List Nat)), wt (R.take s.toNat ++ v :: E) = wt (R.take s.toNat) + (v.length + 1) + wt E := fun v E => by rw [wt_app, wt_cons]; omega
  have done : ∀ (L : List (List Nat)), wt L ≤ 2 * l.length + 50 → (∀ w, w ∈ L → Lo w) → aa__law_bent [.str (tx l), .int a, .int b] = .ok (.str (tx (TL.joinL [10] L))) → ∃ l', Lo l' ∧ l'.length ≤ 2 * l.length + 50 ∧ aa__law_bent [.str (tx l), .int a, .int b] = .ok (.str (tx l')) := fun L h1 h2 h3 => ⟨_, jl_lo (by omega) h2, Nat.le_trans (jl_len 10 L) h1, h3⟩
  have run : aa__law_bent [.str (tx l), .int a, .int b] = ((exec (look tb__law_bent) gam 1000 i5__law_bent (bS l a b R s t q .any .any .any)).thn fun δ => (exec (look tb__law_bent) gam 1000 i8__law_bent δ).thn fun δ => (exec (look tb__law_bent) gam 1000 i10__law_bent δ).thn fun δ => (exec (look tb__law_bent) gam 1000 i12__law_bent δ).thn fun δ => (exec (look tb__law_bent) gam 1000 md2 δ).thn (exec (look tb__law_bent) gam 1000 tl10)).val := by
    simp only [aa__law_bent, runS_val]
    rw [st0, cut6 bent_eq]
    show ((exec (look tb__law_bent) gam 1000 hd4 _).thn _).val = _
    rw [pre, thn_next]
    rfl
  have wl := lr.2
  have ul := lu.2
  by_cases q0 : q < 4
  · obtain ⟨r', lr', wr', er'⟩ := sp_bent_row (l := r) (a := a / 512) (b := b) lr.1 (by omega)
    have w : wt (R.take s.toNat ++ r' :: R.drop (s.toNat + 1)) ≤ 2 * l.length + 50 := by rw [vD]; omega
    refine done _ w (lD _ _ lr' lC) ?_
    rw [run, way_row q0 z0 (by omega) ir er' (by omega)]
    rfl
  · rw [skip_row q0, thn_next] at run
    by_cases q4 : q = 4
    · subst q4
      have w : wt (R.take s.toNat ++ R.drop (s.toNat + 1)) ≤ 2 * l.length + 50 := by rw [wt_app]; omega
      refine done _ w (fun q hq => (List.mem_append.mp hq).elim (lA q) (lC q)) ?_
      rw [run, way_out z0 (by omega) (by omega)]
      rfl
    · rw [skip_out q4, thn_next] at run
      by_cases q5 : q = 5
      · subst q5
        have w : wt (R.take s.toNat ++ u :: R.drop s.toNat) ≤ 2 * l.length + 50 := by rw [vD]; omega
        refine done _ w (lD _ _ lu.1 lB) ?_
        rw [run, way_again z0 (by omega) iu (by omega)]
        rfl
      · rw [skip_again q5, thn_next] at run
        by_cases q6 : q = 6
        · subst q6
          have e1 : wt (R.set s.toNat u) + r.length = wt R + u.length := wt_set hr
          have hu' : (R.set s.toNat u)[t.toNat]? = some u := by
            by_cases c : s.toNat = t.toNat
            · rw [← c, List.getElem?_set_self (by omega)]
            · rw [List.getElem?_set_ne c, hu]
          have e2 := wt_set (x := r) hu'
          refine done ((R.set s.toNat u).set t.toNat r) (by omega) (fun w hw => ?_) (by
            rw [run, way_swap z0 z1 y0 y1 ir iu (by omega)]
            rfl)
          rcases List.mem_or_eq_of_mem_set hw with hw | rfl
          · rcases List.mem_or_eq_of_mem_set hw with hw | rfl
            · exact (mR w hw).1
            · exact lu.1
          · exact lr.1
        · rw [skip_swap q6, thn_next] at run
          obtain ⟨S, hS, lS, eS⟩ := some_set (l := l) (a := a) (b := b) (s := s) (t := t) (q := q) (R := R) (x8 := .any) (x9 := .any)
          rw [eS, thn_next] at run
          obtain ⟨c, mc, ic⟩ := t_at (l := S) (i := b / 4 % (S.length : Int)) (Int.emod_nonneg _ (by omega)) (Int.emod_lt_of_pos _ (by omega)) (by omega)
          have p0 := Int.emod_nonneg (a / 16) (show (l.length : Int) + 1 ≠ 0 by omega)
          obtain ⟨m, hm, hmc, Z, hZ, e⟩ := way_sign (l := l) (a := a) (b := b) (s := s) (t := t) (q := q) (R := R) hl hS (by omega) (by omega) rfl rfl p0 ic
          refine ⟨_, ?_, ?_, by rw [run, e]; rfl⟩
          · refine Lo.app (lo.sub fun c hc => List.take_subset _ _ hc) (Lo.app (fun d hd => by rw [hmc d hd]; exact lS c mc) ?_)
            rcases hZ with rfl | rfl | rfl
            · exact lo.sub fun c hc => List.drop_subset _ _ hc
            · exact lo.sub fun c hc => List.drop_subset _ _ hc
            · exact fun c hc => by cases hc
          · have hZ2 : Z.length ≤ l.length := by
              rcases hZ with rfl | rfl | rfl
              · simp
              · simp
              · simp
            have := List.length_take_le' (a / 16 % ((l.length : Int) + 1)).toNat l
            simp only [List.length_append]
            omega

end K74

namespace K74
open PySem PySem.Spec L2 Mn
open PyProof.Rows hiding St
/-! ### trains read -/
def trainIn : List (List Nat) → Option (List Int)
  | [] => some []
  | w :: W => match endIn w with
    | some e => (trainIn W).map (e :: ·)
    | none => none
theorem comp_ends {f : D → R (Option D)} : ∀ {W : List (List Nat)}, (∀ w, w ∈ W → f (.str (tx w)) = match endIn w with
    | some e => .ok (some (.int e))
    | none => .exc "NoText") → compL f (dtx W) = match trainIn W with
    | some t => .ok (dl t)
    | none => .exc "NoText"
  | [], _ => rfl
  | w :: W, h => by
    have ih := comp_ends fun x hx => h x (List.mem_cons_of_mem w hx)
    have hw := h w List.mem_cons_self
    rw [dtx_cons, compL_ne, hw]
    unfold trainIn
    cases endIn w with
    | none => rfl
    | some e =>
      simp only [R.bind_ok, ih]
      cases trainIn W <;> rfl
theorem sp_read_trainG {l : List Nat} (hl : l.length ≤ 500000) (lo : Lo l) : aa_read_train [.str (tx l)] = match trainIn (wds l) with
    | some t => .ok (.lst .own (dl t))
    | none => .exc "NoText" := by
  have s1 : splop (.str (tx l)) (.str (tx [32])) = .ok (.lst .own (dtx (wds l))) := split_tx (a := l) (c := 32) (by omega) (by omega)
  have ln : (wds l).length ≤ l.length + 1 := (spl_len [32] l 0 []).1
  have mw : ∀ w, w ∈ wds l → w.length ≤ 16777216 ∧ Lo w := fun w hw => ⟨by have := spl_le hw; omega, spl_lo lo hw⟩
  generalize wds l = W at s1 ln mw
  have e1 : evC (look tb_read_train) gam (.comp (.call "end_in" (.cons (.slot 1) .nil)) (.nm 1) (.its (.split (.slot 0) (.str " "))) .yes [("word", 1)]) [.str (tx l), .any] = (match trainIn W with
    | some t => .ok (.lst .own (dl t))
    | none => .exc "NoText") := by
    have hlen : (dtx W).length < 16777216 := by simp; omega
    have ce : ∀ f : D → R (Option D), (∀ w, w ∈ W → f (.str (tx w)) = match endIn w with
      | some e => .ok (some (.int e))
      | none => .exc "NoText") → compL f (dtx W) = match trainIn W with
      | some t => .ok (dl t)
      | none => .exc "NoText" := fun f hf => comp_ends hf
    generalize dtx W = w at s1 hlen ce
    simp [evC, l_sp, s1, hlen]
    rw [ce _ fun x hx => by
      have ei := sp_end_in (mw x hx).1 (mw x hx).2
      simp [turnX, ei]
      cases endIn x <;> simp]
    cases trainIn W <;> rfl
  have st0 : ([.str (tx l)] ++ List.replicate (2 - 1) D.any) = [.str (tx l), .any] := rfl
  simp only [aa_read_train, runS_val, ss_read_train]
  rw [st0, ex_cons, ex_retCX, evCX_def, show D.frzs [.str (tx l), .any] = [.str (tx l), .any] by simp, e1]
  cases trainIn W <;> simp
def oD : Option Int → D
  | some i => .int i
  | none => .non
@[simp] theorem frz_oD {o : Option Int} : (oD o).frz = oD o := by cases o <;> simp [oD]
@[simp] theorem pur_oD {o : Option Int} : (oD o).pur = true := by cases o <;> simp [oD]
@[simp] theorem rd_oD {o : Option Int} : rd (oD o) = .ok (oD o) := by cases o <;> rfl
def ods (L : List (Option Int)) : List D := L.map oD
@[simp] theorem ods_len {L : List (Option Int)} : (ods L).length = L.length := by simp [ods]
@[simp] theorem frzs_ods {L : List (Option Int)} : D.frzs (ods L) = ods L := by
  rw [D.frzs_eq]
  simp [ods]
@[simp] theorem purs_ods {L : List (Option Int)} : D.purs (ods L) = true := by
  rw [D.purs_eq]
  simp [ods]
theorem py_ods : ∀ L : List (Option Int), D.toPys (ods L) = some (L.map fun o => match o with | some i => PyData.int i | none => .none)
  | [] => by simp [ods, D.toPys]
  | o :: L => by
    have := py_ods L
    unfold ods at this ⊢
    cases o <;> simp [D.toPys, D.toPy, oD, this]
theorem non_in {L : List (Option Int)} : cmpop .isin .non (.lst .frz (ods L)) = .ok (.bl (decide (none ∈ L))) := by
  show (inD .non (ods L) >>= fun k => R.ok (D.bl k)) = _
  unfold inD
  have s1 : SeqAt.shaped (.list (L.map fun o => match o with | some i => PyData.int i | none => .none)) = true := by
    have c : PyData.canLayAll0 (L.map fun o => match o with | some i => PyData.int i | none => .none) = true := by
      induction L with
      | nil => simp [PyData.canLayAll0]
      | cons o L ih => cases o <;> simp [PyData.canLayAll0, PyData.canLay0, ih]
    have d : PyData.depthAll (L.map fun o => match o with | some i => PyData.int i | none => .none) ≤ 1 := by
      clear c
      induction L with
      | nil => simp [PyData.depthAll]
      | cons o L ih =>
        cases o <;> simp [PyData.depthAll, PyData.depth] <;> omega
    simp [SeqAt.shaped, PyData.canLay0, c, PyData.depth]
    omega
  have s2 : SeqAt.shaped .none = true := rfl
  simp only [D.toPy, py_ods, s1, s2, Bool.and_self, if_true]
  have e : ((L.map fun o => match o with | some i => PyData.int i | none => .none).any fun z => PyData.eqv z .none) = decide (none ∈ L) := by
    rw [Bool.eq_iff_iff]
    simp [PyData.eqv]
    constructor
    · rintro ⟨o, ho, h⟩
      cases o with
      | none => exact ho
      | some i => simp [PyData.eqv] at h
    · intro h
      exact ⟨none, h, by simp [PyData.eqv]⟩
  rw [e]
  rfl
theorem trainIn_all : ∀ W : List (List Nat), trainIn W = if none ∈ W.map endIn then none else some (W.map fun w => (endIn w).getD 0)
  | [] => rfl
  | w :: W => by
    unfold trainIn
    rw [trainIn_all W]
    cases h : endIn w with
    | none => simp [h]
    | some e =>
      by_cases c : none ∈ W.map endIn
      · rw [if_pos c, if_pos (by simp [h]; simpa using c)]
        rfl
      · rw [if_neg c, if_neg (by simp [h]; simpa using c)]
        simp [h]
theorem sp_law_read_train {l : List Nat} (hl : l.length ≤ 500000) (lo : Lo l) : aa__law_read_train [.str (tx l)] = .ok (match trainIn (wds l) with
    | some t => .lst .own (dl t)
    | none => .non) := by
  have s1 : splop (.str (tx l)) (.str (tx [32])) = .ok (.lst .own (dtx (wds l))) := split_tx (a := l) (c := 32) (by omega) (by omega)
  have ln : (wds l).length ≤ l.length + 1 := (spl_len [32] l 0 []).1
  have mw : ∀ w, w ∈ wds l → w.length ≤ 1000000 ∧ Lo w := fun w hw => ⟨by have := spl_le hw; omega, spl_lo lo hw⟩
  rw [trainIn_all]
  generalize wds l = W at s1 ln mw
  have a1 : exec (look tb__law_read_train) gam 1000 (.setC 1 (.comp (.call "_law_end" (.cons (.slot 2) .nil)) (.nm 2) (.its (.split (.slot 0) (.str " "))) .yes [("_law_word", 2)])) [.str (tx l), .any, .any] = .next [.str (tx l), .lst .own (ods (W.map endIn)), .any] := by
    have hlen : (dtx W).length < 16777216 := by simp; omega
    have ce : ∀ f : D → R (Option D), (∀ w, w ∈ W → f (.str (tx w)) = .ok (some (oD (endIn w)))) → compL f (dtx W) = .ok (ods (W.map endIn)) := fun f hf => by
      rw [show dtx W = W.map fun w => D.str (tx w) from rfl, compL_map (fun w => D.str (tx w)) (fun _ => true) (fun w => oD (endIn w)) (fun x hx => by rw [hf x hx]; rfl), List.filter_eq_self.mpr (by simp)]
      simp [ods, Function.comp_def]
    generalize dtx W = w at s1 hlen ce
    simp [l_sp, s1, hlen]
    rw [ce _ fun x hx => by
      have ei := sp_law_end (mw x hx).1 (mw x hx).2
      have ei : aa__law_end [.str (tx x)] = .ok (oD (endIn x)) := by rw [ei]; cases endIn x <;> rfl
      simp [turn, ei]]
    simp
  have st0 : ([.str (tx l)] ++ List.replicate (3 - 1) D.any) = [.str (tx l), .any, .any] := rfl
  have ni := non_in (L := W.map endIn)
  simp only [aa__law_read_train, runS_val, ss__law_read_train]
  rw [st0, ex_cons, a1, thn_next]
  by_cases c : none ∈ W.map endIn
  · rw [decide_eq_true c] at ni
    rw [if_pos c]
    simp [i2__law_read_train, ni]
  · rw [decide_eq_false c] at ni
    rw [if_neg c]
    have eq : ods (W.map endIn) = dl (W.map fun w => (endIn w).getD 0) := by
      unfold ods Mn.dl
      rw [List.map_map, List.map_map]
      refine List.map_congr_left fun w hw => ?_
      cases h : endIn w with
      | none => exact absurd (List.mem_map.mpr ⟨w, hw, h⟩) c
      | some e => simp [oD, h]
    rw [eq] at ni ⊢
    generalize (W.map fun w => (endIn w).getD 0) = t at *
    simp [i2__law_read_train, ni]

end K74

namespace K74
open PySem PySem.Spec L2 Mn
open PyProof.Rows hiding St
/-! ### runs read, by the law -/
def oPr (q : List Nat × Option Int) : D := .tup [.str (tx q.1), oD q.2]
def oPs (P : List (List Nat × Option Int)) : List D := P.map oPr
@[simp] theorem oPs_len {P : List (List Nat × Option Int)} : (oPs P).length = P.length := by simp [oPs]
@[simp] theorem oPs_nil : oPs [] = [] := rfl
@[simp] theorem frz_oPr {q : List Nat × Option Int} : (oPr q).frz = oPr q := by simp [oPr]
@[simp] theorem frzs_oPs {P : List (List Nat × Option Int)} : D.frzs (oPs P) = oPs P := by
  rw [D.frzs_eq]
  simp [oPs]
@[simp] theorem purs_oPs {P : List (List Nat × Option Int)} : D.purs (oPs P) = true := by
  rw [D.purs_eq]
  simp [oPs, oPr]
def pairsOf : List (List Nat) → List (List Nat × Option Int)
  | a :: b :: L => (a, endIn b) :: pairsOf L
  | _ => []
theorem pairsOf_len : ∀ W : List (List Nat), (pairsOf W).length = W.length / 2
  | [] => rfl
  | [_] => by simp [pairsOf]
  | a :: b :: L => by
    simp [pairsOf, pairsOf_len L]
    omega
theorem pairs_lo : ∀ (W : List (List Nat)), (∀ w, w ∈ W → Lo w) → ∀ q, q ∈ pairsOf W → Lo q.1
  | [], _, q, hq => by cases hq
  | [_], _, q, hq => by cases hq
  | a :: b :: L, h, q, hq => by
    rcases List.mem_cons.mp hq with rfl | hq
    · exact h a (by simp)
    · exact pairs_lo L (fun w hw => h w (by simp [hw])) q hq
def okP (q : List Nat × Option Int) : Bool := decide (q.1 = wOn ∨ q.1 = wBack) && q.2.isSome
theorem runPairs_all : ∀ W : List (List Nat), runPairs W = if (pairsOf W).all okP = true then some ((pairsOf W).map fun q => (q.1, q.2.getD 0)) else none
  | [] => rfl
  | [_] => rfl
  | a :: b :: L => by
    have ih := runPairs_all L
    unfold runPairs pairsOf
    rw [ih, List.all_cons]
    by_cases c : a = wOn ∨ a = wBack
    · rw [if_pos c]
      cases h : endIn b with
      | none => simp [okP]
      | some e =>
        have : okP (a, some e) = true := by simp [okP, c]
        rw [this, Bool.true_and]
        by_cases d : (pairsOf L).all okP = true
        · rw [if_pos d, if_pos d]
          rfl
        · rw [if_neg d, if_neg d]
          rfl
    · rw [if_neg c]
      have : okP (a, endIn b) = false := by simp [okP, c]
      rw [this]
      simp
theorem oPs_cms {P : List (List Nat × Option Int)} (h : P.all okP = true) : oPs P = cms (P.map fun q => (q.1, q.2.getD 0)) := by
  unfold oPs cms
  rw [List.map_map]
  refine List.map_congr_left fun q hq => ?_
  have := List.all_eq_true.mp h q hq
  obtain ⟨a, o⟩ := q
  cases o with
  | none => simp [okP] at this
  | some e => rfl
theorem it_r3h {j : Int} {k : Nat} (h1 : k ≤ 1000000) (h : j = 2 * (k : Int) ∨ j = 2 * (k : Int) - 1) : itop .range3 [.int 0, .int j, .int 2] = .ok (.tup (dl ((rng 0 k).map (2 * ·)))) := by
  have e := it_r3k h1
  have sz : Builtin.Range.rangeSize 0 j 2 = k := by
    unfold Builtin.Range.rangeSize
    rw [if_pos (by decide)]
    by_cases c : (0 : Int) < j
    · rw [if_pos c]
      omega
    · rw [if_neg c]
      omega
  have sz2 : Builtin.Range.rangeSize 0 (2 * (k : Int)) 2 = k := by
    unfold Builtin.Range.rangeSize
    rw [if_pos (by decide)]
    by_cases c : (0 : Int) < 2 * k
    · rw [if_pos c]
      omega
    · rw [if_neg c]
      omega
  have ok : okR3 0 j 2 = true := by
    unfold okR3 Builtin.Range.small
    simp [sz, Builtin.Range.rangeFitsLong]
    omega
  have ok2 : okR3 0 (2 * (k : Int)) 2 = true := by
    unfold okR3 Builtin.Range.small
    simp [sz2, Builtin.Range.rangeFitsLong]
    omega
  have e : (if okR3 0 (2 * (k : Int)) 2 = true then R.ok (D.tup (rangeL 0 2 (Builtin.Range.rangeSize 0 (2 * (k : Int)) 2).toNat)) else .bad) = _ := e
  rw [if_pos ok2, sz2] at e
  show (if okR3 0 j 2 = true then R.ok (D.tup (rangeL 0 2 (Builtin.Range.rangeSize 0 j 2).toNat)) else .bad) = _
  rw [if_pos ok, sz, e]
theorem drop_pairs : ∀ (i : Nat) (W : List (List Nat)), pairsOf (W.drop (2 * i)) = (pairsOf W).drop i
  | 0, W => rfl
  | i + 1, [] => by simp [pairsOf]
  | i + 1, [x] => by
    rw [List.drop_eq_nil_of_le (by simp; omega)]
    simp [pairsOf]
  | i + 1, a :: b :: L => by
    rw [show 2 * (i + 1) = 2 * i + 2 by omega, List.drop_succ_cons, List.drop_succ_cons, drop_pairs i L]
    simp [pairsOf]
theorem lrr_loop {t : D} {W : List (List Nat)} (hW : ∀ w, w ∈ W → w.length ≤ 1000000 ∧ Lo w) (hl : W.length < 1000000) : ∀ (k i : Nat) (acc : List (List Nat × Option Int)) (x3 : D), i + k = W.length / 2 → acc.length = i →
    ∃ y3, loopF (body (look tb__law_read_run) gam 1000 (.nm 3) b5__law_read_run) (dl ((rng (i : Int) k).map (2 * ·))) [t, .lst .own (dtx W), .lst .own (oPs acc), x3, .any, .any, .any] = .next [t, .lst .own (dtx W), .lst .own (oPs (acc ++ (pairsOf W).drop i)), y3, .any, .any, .any]
  | 0, i, acc, x3, hk, ha => by
    refine ⟨x3, ?_⟩
    rw [List.drop_eq_nil_of_le (by rw [pairsOf_len]; omega), List.append_nil]
    rfl
  | k + 1, i, acc, x3, hk, ha => by
    obtain ⟨a, h1⟩ : ∃ a, W[2 * i]? = some a := ⟨_, List.getElem?_eq_getElem (by omega)⟩
    obtain ⟨b, h2⟩ : ∃ b, W[2 * i + 1]? = some b := ⟨_, List.getElem?_eq_getElem (by omega)⟩
    have hd : W.drop (2 * i) = a :: b :: W.drop (2 * (i + 1)) := by
      have g1 := (List.getElem?_eq_some_iff.mp h1)
      have g2 := (List.getElem?_eq_some_iff.mp h2)
      rw [List.drop_eq_getElem_cons g1.1, List.drop_eq_getElem_cons g2.1, g1.2, g2.2]
      rfl
    have hp : (pairsOf W).drop i = (a, endIn b) :: (pairsOf W).drop (i + 1) := by
      rw [← drop_pairs, hd]
      show (a, endIn b) :: pairsOf (W.drop (2 * (i + 1))) = _
      rw [drop_pairs]
    have lb := hW b (List.mem_of_getElem? h2)
    have ia : ixop (.lst .frz (dtx W)) (.int (2 * (i : Int))) = .ok (.str (tx a)) := by
      have := dtx_ix (k := .frz) h1
      rwa [show ((2 * i : Nat) : Int) = 2 * (i : Int) by omega] at this
    have ib : ixop (.lst .frz (dtx W)) (.int (2 * (i : Int) + 1)) = .ok (.str (tx b)) := by
      have := dtx_ix (k := .frz) h2
      rwa [show ((2 * i + 1 : Nat) : Int) = 2 * (i : Int) + 1 by omega] at this
    have eb := sp_law_end (l := b) (by omega) lb.2
    have eb : aa__law_end [.str (tx b)] = .ok (oD (endIn b)) := by rw [eb]; cases endIn b <;> rfl
    obtain ⟨y3, ih⟩ := lrr_loop (t := t) hW hl k (i + 1) (acc ++ [(a, endIn b)]) (.int (2 * (i : Int))) (by omega) (by simp [ha])
    refine ⟨y3, ?_⟩
    have hl' : (oPs acc).length < 16777216 := by simp; omega
    have e0 : oPs acc ++ [.tup [.str (tx a), oD (endIn b)]] = oPs (acc ++ [(a, endIn b)]) := by simp [oPs, oPr]
    have e1 : body (look tb__law_read_run) gam 1000 (.nm 3) b5__law_read_run (.int (2 * (i : Int))) [t, .lst .own (dtx W), .lst .own (oPs acc), x3, .any, .any, .any] = .next [t, .lst .own (dtx W), .lst .own (oPs (acc ++ [(a, endIn b)])), .int (2 * (i : Int)), .any, .any, .any] := by
      generalize oPs acc = A at *
      simp [body_ap, b5__law_read_run, ia, ib, eb, ownAt, getP, setP, hl', e0]
    rw [rng_cons, List.map_cons, show dl (2 * (i : Int) :: (rng ((i : Int) + 1) k).map (2 * ·)) = .int (2 * (i : Int)) :: dl ((rng ((i : Int) + 1) k).map (2 * ·)) from rfl, loopF_cons, e1, thn_next, show ((i : Int) + 1) = ((i + 1 : Nat) : Int) by omega, ih, hp]
    simp
theorem py_dtx : ∀ L : List (List Nat), D.toPys (dtx L) = some (L.map fun l => PyData.str (tx l))
  | [] => by simp [D.toPys]
  | l :: L => by
    have := py_dtx L
    simp [D.toPys, D.toPy, this]
theorem sh_dtx {L : List (List Nat)} (h : ∀ l, l ∈ L → Lo l) : SeqAt.shaped (.list (L.map fun l => PyData.str (tx l))) = true := by
  have c : PyData.canLayAll0 (L.map fun l => PyData.str (tx l)) = true := by
    induction L with
    | nil => simp [PyData.canLayAll0]
    | cons l L ih =>
      have h1 : PyData.strOk (tx l) = true := okS_tx (h l List.mem_cons_self)
      simp [PyData.canLayAll0, PyData.canLay0, h1, ih fun x hx => h x (List.mem_cons_of_mem _ hx)]
  have d : PyData.depthAll (L.map fun l => PyData.str (tx l)) ≤ 1 := by
    clear c h
    induction L with
    | nil => simp [PyData.depthAll]
    | cons l L ih =>
      simp [PyData.depthAll, PyData.depth]
      omega
  simp [SeqAt.shaped, PyData.canLay0, c, PyData.depth]
  omega
theorem ne_dtx_nil {k k' : LK} {L : List (List Nat)} (h : ∀ l, l ∈ L → Lo l) : cmpop .ne (.lst k (dtx L)) (.lst k' []) = .ok (.bl (!decide (L = []))) := by
  rw [co_ne' (x := .list (L.map fun l => PyData.str (tx l))) (y := .list []) (by simp [D.toPy, py_dtx]) (by simp [D.toPy, D.toPys]) (sh_dtx h) (sh_dtx (L := []) (by simp))]
  cases L <;> simp [PyData.eqv, PyData.eqvAll]
theorem sp_law_read_run {l : List Nat} (hl : l.length ≤ 500000) (lo : Lo l) : aa__law_read_run [.str (tx l)] = .ok (match runIn l with
    | some r => .lst .own (cms r)
    | none => .non) := by
  have e1 := eq_tx (b := [45]) lo (fun c hc => by rw [List.mem_singleton.mp hc]; omega)
  have s1 : splop (.str (tx l)) (.str (tx [32])) = .ok (.lst .own (dtx (wds l))) := split_tx (a := l) (c := 32) (by omega) (by omega)
  have ln : (wds l).length ≤ l.length + 1 := (spl_len [32] l 0 []).1
  have mw : ∀ w, w ∈ wds l → w.length ≤ 1000000 ∧ Lo w := fun w hw => ⟨by have := spl_le hw; omega, spl_lo lo hw⟩
  have hne : 0 < (wds l).length := List.length_pos_iff.mpr (spl_ne _ _ _ _)
  have st0 : ([.str (tx l)] ++ List.replicate (7 - 1) D.any) = [.str (tx l), .any, .any, .any, .any, .any, .any] := rfl
  unfold runIn
  by_cases c1 : l = [45]
  · subst c1
    have e1' : cmpop .eq (.str (tx [45])) (.str (tx [45])) = .ok (.bl true) := by rw [e1]; rfl
    simp [aa__law_read_run, runS_val, ss__law_read_run, i1__law_read_run, l_dash, e1']
  · rw [if_neg c1]
    have e1' : cmpop .eq (.str (tx l)) (.str (tx [45])) = .ok (.bl false) := by rw [e1]; simp [c1]
    rw [runPairs_all]
    generalize hW : wds l = W at s1 ln mw hne
    have r3 := it_r3h (j := (W.length : Int) - 1) (k := W.length / 2) (by omega) (by omega)
    obtain ⟨y3, lp⟩ := lrr_loop (t := .str (tx l)) mw (by omega) (W.length / 2) 0 [] .any (by omega) rfl
    rw [show ((0 : Nat) : Int) = 0 from rfl, List.drop_zero, List.nil_append, oPs_nil] at lp
    have pl := pairsOf_len W
    have pm : ∀ q, q ∈ pairsOf W → Lo q.1 := by
      exact pairs_lo W (fun w hw => (mw w hw).2)
    generalize pairsOf W = P at lp pl pm
    have a1 : exec (look tb__law_read_run) gam 1000 i1__law_read_run [.str (tx l), .any, .any, .any, .any, .any, .any] = .next [.str (tx l), .any, .any, .any, .any, .any, .any] := by
      simp [i1__law_read_run, l_dash, e1']
    have a2 : exec (look tb__law_read_run) gam 1000 (.set (.nm 1) (.split (.slot 0) (.str " "))) [.str (tx l), .any, .any, .any, .any, .any, .any] = .next [.str (tx l), .lst .own (dtx W), .any, .any, .any, .any, .any] := by
      simp [l_sp, s1]
    have a3 : exec (look tb__law_read_run) gam 1000 (.set (.nm 2) (.list .nil)) [.str (tx l), .lst .own (dtx W), .any, .any, .any, .any, .any] = .next [.str (tx l), .lst .own (dtx W), .lst .own [], .any, .any, .any, .any] := by
      simp
    have a4 : exec (look tb__law_read_run) gam 1000 (.fr (.nm 3) (.it .range3 (.cons (.int 0) (.cons (.bin .sub (.blt .len (.cons (.slot 1) .nil)) (.int 1)) (.cons (.int 2) .nil)))) b5__law_read_run) [.str (tx l), .lst .own (dtx W), .lst .own [], .any, .any, .any, .any] = .next [.str (tx l), .lst .own (dtx W), .lst .own (oPs P), y3, .any, .any, .any] := by
      rw [← lp]
      refine ex_fr_of (args := [.int 0, .int ((W.length : Int) - 1), .int 2]) ?_ ?_
      · simp
      · rw [itJ_it, r3, R.bind_ok, tupOf_tup]
    have a5 : exec (look tb__law_read_run) gam 1000 (.setC 4 (.comp (.slot 5) (.tup (.cons (.nm 5) (.cons (.nm 6) .nil))) (.its (.slot 2)) (.or (.cmp .notin (.slot 5) (.list (.cons (.str "on") (.cons (.str "back") .nil)))) (.cmp .is (.slot 6) .non)) [("_law_word", 5), ("_law_end_here", 6)])) [.str (tx l), .lst .own (dtx W), .lst .own (oPs P), y3, .any, .any, .any] = .next [.str (tx l), .lst .own (dtx W), .lst .own (oPs P), y3, .lst .own (dtx ((P.filter fun q => !okP q).map (·.1))), .any, .any] := by
      have ce : ∀ f : D → R (Option D), (∀ q, q ∈ P → f (oPr q) = .ok (if (!okP q) = true then some (.str (tx q.1)) else none)) → compL f (oPs P) = .ok (dtx ((P.filter fun q => !okP q).map (·.1))) := fun f hf => by
        rw [show oPs P = P.map oPr from rfl, compL_map oPr (fun q => !okP q) (fun q => .str (tx q.1)) hf]
        simp [dtx, Function.comp_def]
      simp [show P.length < 16777216 by omega]
      rw [ce _ fun q hq => by
        have nw := notin_words (pm q hq)
        have is1 : ∀ i : Int, cmpop .is (.int i) .non = .ok (.bl false) := fun _ => rfl
        have is2 : cmpop .is .non .non = .ok (.bl true) := rfl
        obtain ⟨a, o⟩ := q
        simp only at nw
        by_cases c : a = wOn ∨ a = wBack
        · rw [show decide (a = wOn ∨ a = wBack) = true by simpa using c] at nw
          cases o <;> simp [turn, oPr, okP, oD, l_on, l_back, nw, is1, is2, c]
        · rw [show decide (a = wOn ∨ a = wBack) = false by simpa using c] at nw
          cases o <;> simp [turn, oPr, okP, oD, l_on, l_back, nw, c]]
      simp
    have nb := ne_dtx_nil (k := .frz) (k' := .own) (L := (P.filter fun q => !okP q).map (·.1)) (fun w hw => by
      obtain ⟨q, hq, rfl⟩ := List.mem_map.mp hw
      exact pm q (List.mem_filter.mp hq).1)
    have fe : (P.filter fun q => !okP q).map (·.1) = [] ↔ P.all okP = true := by
      rw [List.map_eq_nil_iff, List.filter_eq_nil_iff, List.all_eq_true]
      simp
    have md : binop .mod (.int (W.length : Int)) (.int 2) = .ok (.int ((W.length : Int) % 2)) := bo_mod (by omega)
    simp only [aa__law_read_run, runS_val, ss__law_read_run]
    rw [st0, ex_cons, a1, thn_next, ex_cons, a2, thn_next, ex_cons, a3, thn_next, ex_cons, a4, thn_next, ex_cons, a5, thn_next]
    have wl : W.length < 16777216 := by omega
    by_cases c2 : W.length % 2 = 1
    · rw [if_pos c2]
      have c2' : ((W.length : Int) % 2 = 1) := by omega
      generalize (P.filter fun q => !okP q).map (·.1) = B at *
      simp [i8__law_read_run, md, c2', wl]
    · rw [if_neg c2]
      have c2' : ¬ ((W.length : Int) % 2 = 1) := by omega
      by_cases c3 : P.all okP = true
      · rw [if_pos c3]
        have e := oPs_cms c3
        rw [decide_eq_true (fe.mpr c3)] at nb
        generalize (P.filter fun q => !okP q).map (·.1) = B at *
        rw [e]
        simp [i8__law_read_run, md, c2', wl, nb]
      · rw [if_neg c3]
        rw [decide_eq_false (fun z => c3 (fe.mp z))] at nb
        generalize (P.filter fun q => !okP q).map (·.1) = B at *
        simp [i8__law_read_run, md, c2', wl, nb]

end K74

namespace K74
open PySem PySem.Spec L2 Mn
open PyProof.Rows hiding St
/-! ### the law -/
theorem isi_l {l : List D} : isop (.lst .frz l) .list = .ok (.bl true) := id rfl
theorem sp_right {l : List Nat} {due : D} {fd : List D} {b : Bool} (h : due.frz = .non ∧ (if b then aa_read_run else aa_read_train) [.str (tx l)] = .exc "NoText" ∨ due.frz = .lst .frz fd ∧ D.frzs fd = fd ∧ (if b then aa_read_run else aa_read_train) [.str (tx l)] = .ok (.lst .own fd) ∧ cmpop .eq (.lst .frz fd) (.lst .frz fd) = .ok (.bl true)) (hp : D.purs fd = true) : aa__law_right [.str (tx l), due.frz, .bl b] = .ok (.bl true) := by
  have x1 : ("NoText" : Str) ∈ exNames := by decide
  have n1 : cmpop .is .non .non = .ok (.bl true) := rfl
  have n2 : ∀ l : List D, cmpop .is (.lst .frz l) .non = .ok (.bl false) := fun _ => rfl
  have t1 : cmpop .eq (.str "text") (.str "text") = .ok (.bl true) := by kernel_rfl
  rcases h with ⟨h1, h2⟩ | ⟨h1, h2, h3, h4⟩
  · rw [h1]
    cases b
    · simp only [Bool.false_eq_true, if_false] at h2
      simp [aa__law_right, runS_val, ss__law_right, t3__law_right, i4__law_right, i10__law_right, h2, keep_exc x1, n1, kind_text, t1]
    · simp only [if_true] at h2
      simp [aa__law_right, runS_val, ss__law_right, t3__law_right, i4__law_right, i10__law_right, h2, keep_exc x1, n1, kind_text, t1]
  · rw [h1]
    cases b
    · simp only [Bool.false_eq_true, if_false] at h3
      simp [aa__law_right, runS_val, ss__law_right, t3__law_right, i4__law_right, i10__law_right, h3, h2, hp, n1, n2, isi_l, h4]
    · simp only [if_true] at h3
      simp [aa__law_right, runS_val, ss__law_right, t3__law_right, i4__law_right, i10__law_right, h3, h2, hp, n1, n2, isi_l, h4]
theorem eq_cms {k k' : LK} {r : List Cm} (h : ∀ m, m ∈ r → m.1 = wOn ∨ m.1 = wBack) : cmpop .eq (.lst k (cms r)) (.lst k' (cms r)) = .ok (.bl true) := by
  have ok : ∀ m, m ∈ toM r → okS m.1 := fun m hm => by
    obtain ⟨q, hq, rfl⟩ := List.mem_map.mp hm
    rcases h q hq with z | z
    · show okS (tx q.1)
      rw [z]; exact okS_tx wOn_lo
    · show okS (tx q.1)
      rw [z]; exact okS_tx wBack_lo
  rw [cms_mls]
  exact co_eqS (py_mls _) (py_mls _) (sh_pyV ok)
theorem runPairs_words' : ∀ (W : List (List Nat)) (r : List Cm), runPairs W = some r → ∀ m, m ∈ r → m.1 = wOn ∨ m.1 = wBack
  | [], r, h, m, hm => by cases h; cases hm
  | [_], r, h, m, hm => by cases h; cases hm
  | a :: b :: L, r, h, m, hm => by
    unfold runPairs at h
    split at h
    · rename_i c
      split at h
      · obtain ⟨s, hs, rfl⟩ := Option.map_eq_some_iff.mp h
        rcases List.mem_cons.mp hm with rfl | hm
        · exact c
        · exact runPairs_words' L s hs m hm
      · cases h
    · cases h
theorem right_train {l : List Nat} (hl : l.length ≤ 500000) (lo : Lo l) : ∃ d : D, aa__law_read_train [.str (tx l)] = .ok d ∧ aa__law_right [.str (tx l), d.frz, .bl false] = .ok (.bl true) := by
  have r1 := sp_read_trainG hl lo
  have r2 := sp_law_read_train hl lo
  cases h : trainIn (wds l) with
  | none =>
    rw [h] at r1 r2
    exact ⟨_, r2, sp_right (fd := []) (.inl ⟨by simp, r1⟩) (by simp)⟩
  | some t =>
    rw [h] at r1 r2
    exact ⟨_, r2, sp_right (fd := dl t) (.inr ⟨by simp, by simp, r1, by simp⟩) (by simp)⟩
theorem right_run {l : List Nat} (hl : l.length ≤ 500000) (lo : Lo l) : ∃ d : D, aa__law_read_run [.str (tx l)] = .ok d ∧ aa__law_right [.str (tx l), d.frz, .bl true] = .ok (.bl true) := by
  have r1 := sp_read_run hl lo
  have r2 := sp_law_read_run hl lo
  cases h : runIn l with
  | none =>
    rw [h] at r1 r2
    exact ⟨_, r2, sp_right (fd := []) (.inl ⟨by simp, r1⟩) (by simp)⟩
  | some r =>
    rw [h] at r1 r2
    have ok : ∀ m, m ∈ r → m.1 = wOn ∨ m.1 = wBack := by
      unfold runIn at h
      split at h
      · cases h; intro m hm; cases hm
      · split at h
        · cases h
        · exact runPairs_words' _ _ h
    exact ⟨_, r2, sp_right (fd := cms r) (.inr ⟨by simp, by simp, r1, eq_cms ok⟩) (by simp)⟩
theorem Gn.rg {n : Int} {js : List (Int × Int)} {t : List Int} {r : List (Str × Int)} {u : List Int} (W : Ln n js) (h : Gn js t r u) : ∀ m, m ∈ r → (m.1 = "on" ∨ m.1 = "back") ∧ 0 ≤ m.2 ∧ m.2 < 2 * n := by
  induction h with
  | refl => intro m hm; cases hm
  | @step r u q hg hq ih =>
    intro m hm
    rcases List.mem_append.mp hm with hm | hm
    · exact ih m hm
    · rw [List.mem_singleton.mp hm]
      rcases List.mem_append.mp hq with hq | hq
      · obtain ⟨e, he, rfl⟩ := List.mem_map.mp hq
        have := W.near (List.mem_filter.mp he).1
        exact ⟨.inl rfl, this.1, this.2.1⟩
      · obtain ⟨e, he, rfl⟩ := List.mem_map.mp hq
        have := W.near (List.mem_filter.mp he).1
        exact ⟨.inr rfl, this.1, this.2.1⟩
theorem run_cms {n : Int} {r : List (Str × Int)} (w2 : n ≤ 40) (h : ∀ m, m ∈ r → (m.1 = "on" ∨ m.1 = "back") ∧ 0 ≤ m.2 ∧ m.2 < 2 * n) : ∃ c : List Cm, mls r = cms c ∧ Sr c ∧ c.length = r.length := by
  refine ⟨r.map fun m => (TL.tl m.1, m.2), ?_, fun m hm => ?_, by simp⟩
  · unfold mls cms
    rw [List.map_map]
    refine List.map_congr_left fun m _ => ?_
    show mvD m = cmD (TL.tl m.1, m.2)
    unfold mvD cmD
    rw [show tx (TL.tl m.1) = m.1 from TL.mk_tl m.1]
  · obtain ⟨q, hq, rfl⟩ := List.mem_map.mp hm
    obtain ⟨h1, h2, h3⟩ := h q hq
    refine ⟨?_, h2, by simp; omega⟩
    rcases h1 with z | z
    · left
      show TL.tl q.1 = wOn
      rw [z]
      exact congrArg TL.tl l_on
    · right
      show TL.tl q.1 = wBack
      rw [z]
      exact congrArg TL.tl l_back
abbrev lM (ns : List Int) (n : Int) (js : List (Int × Int)) (t : List Int) (r : List Cm) (A B : List Nat) (x6 x7 x8 x9 x10 x11 : D) : List D := [.lst .ro (dl ns), .tup [.int n, .lst .own (dps js)], .lst .own (dl t), .lst .own (cms r), .str (tx A), .str (tx B), x6, x7, x8, x9, x10, x11]
section
variable {ns : List Int} {n : Int} {js : List (Int × Int)} {t : List Int} {r : List Cm} {A B : List Nat}
theorem bend {x6 x11 : D} {a b : List Nat} {U V k : Int} (hk : 0 ≤ k) (hk2 : k ≤ 10) (la : Lo a) (ha : a.length ≤ 100000) (lb : Lo b) (hb : b.length ≤ 100000) : ∃ a' b', Lo a' ∧ a'.length ≤ 2 * a.length + 50 ∧ Lo b' ∧ b'.length ≤ 2 * b.length + 50 ∧
    body (look tb_law) gam 1000 (.nm 11) b11_law (.int k) (lM ns n js t r A B x6 (.int U) (.int V) (.str (tx a)) (.str (tx b)) x11) = .next (lM ns n js t r A B x6 (.int U) (.int V) (.str (tx a')) (.str (tx b')) (.int k)) := by
  obtain ⟨u, _, eu⟩ := sp_mix (c := U) (k := k) hk (by omega)
  obtain ⟨v, _, ev'⟩ := sp_mix (c := V) (k := k) hk (by omega)
  obtain ⟨a', la', ha', e1⟩ := sp_bent (a := u) (b := v) la (by omega)
  obtain ⟨b', lb', hb', e2⟩ := sp_bent (a := v) (b := u) lb (by omega)
  obtain ⟨d1, f1, g1⟩ := right_train (l := a') (by omega) la'
  obtain ⟨d2, f2, g2⟩ := right_run (l := b') (by omega) lb'
  refine ⟨a', b', la', ha', lb', hb', ?_⟩
  simp [body_ap, b11_law, i14_law, eu, ev', e1, e2, f1, g1, f2, g2]
theorem once {x6 x7 x8 x9 x10 x11 : D} {k : Int} (hk : 0 ≤ k) (la : Lo A) (ha : A.length ≤ 10000) (lb : Lo B) (hb : B.length ≤ 10000) : ∃ y7 y8 y9 y10 y11,
    body (look tb_law) gam 1000 (.nm 6) b6_law (.int k) (lM ns n js t r A B x6 x7 x8 x9 x10 x11) = .next (lM ns n js t r A B (.int k) y7 y8 y9 y10 y11) := by
  obtain ⟨U, eu⟩ := sp_cell (ns := ns) (k := 20 + 2 * k) (by omega)
  obtain ⟨V, ev'⟩ := sp_cell (ns := ns) (k := 21 + 2 * k) (by omega)
  obtain ⟨a1, b1, la1, ha1, lb1, hb1, e1⟩ := bend (ns := ns) (n := n) (js := js) (t := t) (r := r) (A := A) (B := B) (a := A) (b := B) (x6 := .int k) (x11 := x11) (U := U) (V := V) (k := 0) (by omega) (by omega) la (by omega) lb (by omega)
  obtain ⟨a2, b2, la2, ha2, lb2, hb2, e2⟩ := bend (ns := ns) (n := n) (js := js) (t := t) (r := r) (A := A) (B := B) (a := a1) (b := b1) (x6 := .int k) (x11 := .int 0) (U := U) (V := V) (k := 1) (by omega) (by omega) la1 (by omega) lb1 (by omega)
  have r2 := it_r1 (j := 2) (by omega) (by omega)
  have rg2 : rng 0 (2 : Int).toNat = [0, 1] := by decide
  rw [rg2] at r2
  have lp : loopF (body (look tb_law) gam 1000 (.nm 11) b11_law) (dl [0, 1]) (lM ns n js t r A B (.int k) (.int U) (.int V) (.str (tx A)) (.str (tx B)) x11) = .next (lM ns n js t r A B (.int k) (.int U) (.int V) (.str (tx a2)) (.str (tx b2)) (.int 1)) := by
    show loopF _ [.int 0, .int 1] _ = _
    rw [loopF_cons, e1, thn_next, loopF_cons, e2, thn_next]
    rfl
  refine ⟨.int U, .int V, .str (tx a2), .str (tx b2), .int 1, ?_⟩
  simp [body_ap, b6_law, eu, ev', r2, lp, bo_mul (i := 2) (.inl (by omega))]
theorem all_bent (la : Lo A) (ha : A.length ≤ 10000) (lb : Lo B) (hb : B.length ≤ 10000) : ∃ x6 x7 x8 x9 x10 x11, loopF (body (look tb_law) gam 1000 (.nm 6) b6_law) (dl (rng 0 6)) (lM ns n js t r A B .any .any .any .any .any .any) = .next (lM ns n js t r A B x6 x7 x8 x9 x10 x11) := by
  obtain ⟨δ', l1, x6, x7, x8, x9, x10, x11, rfl⟩ := loopF_inv (f := body (look tb_law) gam 1000 (.nm 6) b6_law) (items := dl (rng 0 6)) (δ := lM ns n js t r A B .any .any .any .any .any .any)
    (fun i δ => ∃ x6 x7 x8 x9 x10 x11, δ = lM ns n js t r A B x6 x7 x8 x9 x10 x11) ⟨_, _, _, _, _, _, rfl⟩ (by
      rintro i d δ hd ⟨x6, x7, x8, x9, x10, x11, rfl⟩
      obtain ⟨j, hj, rfl⟩ := dl_get hd
      have hi : i < 6 := by
        have := (List.getElem?_eq_some_iff.mp hj).1
        simpa using this
      rw [rng_get hi, Int.zero_add] at hj
      cases hj
      obtain ⟨y7, y8, y9, y10, y11, e⟩ := once (ns := ns) (n := n) (js := js) (t := t) (r := r) (x6 := x6) (x7 := x7) (x8 := x8) (x9 := x9) (x10 := x10) (x11 := x11) (k := (i : Int)) (by omega) la ha lb hb
      exact ⟨_, e, _, _, _, _, _, _, rfl⟩)
  exact ⟨_, _, _, _, _, _, l1⟩
def nthS (k : Nat) : S := hdS (drS k ss_law)
theorem law_eq : ss_law = .cons (nthS 0) (.cons (nthS 1) (.cons (nthS 2) (.cons (nthS 3) (.cons (nthS 4) (.cons (nthS 5) (.cons (nthS 6) .nil)))))) := by kernel_rfl
theorem st_line {m : Int} {c : Int} (el : aa__law_line [.lst .ro (dl ns), .int 0, .int 12, .int 20] = .ok (.tup [.int n, .lst .own (dps js)])) : exec (look tb_law) gam 1000 (nthS 0) [.lst .ro (dl ns), .any, .any, .any, .any, .any, .any, .any, .any, .any, .any, .any] = .next [.lst .ro (dl ns), .tup [.int n, .lst .own (dps js)], .any, .any, .any, .any, .any, .any, .any, .any, .any, .any] := by
  simp [nthS, hdS, drS, ss_law, el]
theorem st_train {m c : Int} (ec : aa__law_cell_at [.lst .ro (dl ns), .int 12] = .ok (.int c)) (em' : aa__law_mix [.int c, .int 0] = .ok (.int m)) (et : aa__law_train [.tup [.int n, .lst .frz (dps js)], .int m, .int 12] = .ok (.lst .own (dl t))) : exec (look tb_law) gam 1000 (nthS 1) [.lst .ro (dl ns), .tup [.int n, .lst .own (dps js)], .any, .any, .any, .any, .any, .any, .any, .any, .any, .any] = .next [.lst .ro (dl ns), .tup [.int n, .lst .own (dps js)], .lst .own (dl t), .any, .any, .any, .any, .any, .any, .any, .any, .any] := by
  simp [nthS, hdS, drS, ss_law, ec, em', et]
theorem st_run {m c : Int} (ec : aa__law_cell_at [.lst .ro (dl ns), .int 13] = .ok (.int c)) (em' : aa__law_mix [.int c, .int 0] = .ok (.int m)) (er : aa__law_run [.tup [.int n, .lst .frz (dps js)], .lst .frz (dl t), .int m, .int 12] = .ok (.lst .own (cms r))) : exec (look tb_law) gam 1000 (nthS 2) [.lst .ro (dl ns), .tup [.int n, .lst .own (dps js)], .lst .own (dl t), .any, .any, .any, .any, .any, .any, .any, .any, .any] = .next [.lst .ro (dl ns), .tup [.int n, .lst .own (dps js)], .lst .own (dl t), .lst .own (cms r), .any, .any, .any, .any, .any, .any, .any, .any] := by
  simp [nthS, hdS, drS, ss_law, ec, em', er]
theorem st_one (h : aa__law_train_text [.lst .frz (dl t)] = .ok (.str (tx A))) : exec (look tb_law) gam 1000 (nthS 3) [.lst .ro (dl ns), .tup [.int n, .lst .own (dps js)], .lst .own (dl t), .lst .own (cms r), .any, .any, .any, .any, .any, .any, .any, .any] = .next [.lst .ro (dl ns), .tup [.int n, .lst .own (dps js)], .lst .own (dl t), .lst .own (cms r), .str (tx A), .any, .any, .any, .any, .any, .any, .any] := by
  simp [nthS, hdS, drS, ss_law, h]
theorem st_two (h : aa__law_run_text [.lst .frz (cms r)] = .ok (.str (tx B))) : exec (look tb_law) gam 1000 (nthS 4) [.lst .ro (dl ns), .tup [.int n, .lst .own (dps js)], .lst .own (dl t), .lst .own (cms r), .str (tx A), .any, .any, .any, .any, .any, .any, .any] = .next (lM ns n js t r A B .any .any .any .any .any .any) := by
  simp [nthS, hdS, drS, ss_law, h]
theorem st_bent {δ : List D} (l1 : loopF (body (look tb_law) gam 1000 (.nm 6) b6_law) (dl (rng 0 6)) (lM ns n js t r A B .any .any .any .any .any .any) = .next δ) : exec (look tb_law) gam 1000 (nthS 5) (lM ns n js t r A B .any .any .any .any .any .any) = .next δ := by
  have r6 := it_r1 (j := 6) (by omega) (by omega)
  rw [show (6 : Int).toNat = 6 from rfl] at r6
  rw [← l1]
  refine ex_fr_of (args := [.int 6]) ?_ ?_
  · simp
  · simp [r6]
theorem st_last {x6 x7 x8 x9 x10 x11 : D} (h1 : aa__law_right [.str (tx A), .lst .frz (dl t), .bl false] = .ok (.bl true)) (h2 : aa__law_right [.str (tx B), .lst .frz (cms r), .bl true] = .ok (.bl true)) : exec (look tb_law) gam 1000 (nthS 6) (lM ns n js t r A B x6 x7 x8 x9 x10 x11) = .ret (.bl true) := by
  simp [nthS, hdS, drS, ss_law, h1, h2]
end
theorem trainIn_train {t : List Int} (h : St t) : trainIn (t.map endL) = some t := by
  induction t with
  | nil => rfl
  | cons e t ih =>
    have he := h e List.mem_cons_self
    rw [List.map_cons]
    unfold trainIn
    rw [endIn_end he.1 he.2]
    simp only
    rw [ih fun x hx => h x (List.mem_cons_of_mem _ hx)]
    rfl
theorem law_plain (ns : List Int) : aa_law [script ns] = .ok (.bl true) := by
  rw [script_dl]
  obtain ⟨n, js, W, _, _, el⟩ := sp_lineX (ns := ns) (st := 0) (mo := 12) (up := 20) (by omega) (by omega) (by omega) (by omega) (by omega)
  obtain ⟨ca, ea⟩ := sp_cell (ns := ns) (k := 12) (by omega)
  obtain ⟨cb, eb⟩ := sp_cell (ns := ns) (k := 13) (by omega)
  obtain ⟨m, hm, em'⟩ := sp_mix (c := ca) (k := 0) (by omega) (by omega)
  obtain ⟨m2, hm2, em2⟩ := sp_mix (c := cb) (k := 0) (by omega) (by omega)
  obtain ⟨t, R, tl, et⟩ := sp_trainX (m := m) (most := 12) W hm (by omega) (by omega)
  obtain ⟨r, u, G, rl, er⟩ := sp_runX (m := m2) (most := 12) W R.ne (by omega) hm2 (by omega) (by omega)
  have w2 := W.hi
  obtain ⟨c, ec, sc, cl⟩ := run_cms w2 (G.rg W)
  rw [ec] at er
  have st : St t := fun e he => by
    have := R.rg e he
    omega
  have s1 := sp_train_text st (by omega)
  have s2 := sp_run_text sc (by omega)
  have lA := trainL_lo (t := t)
  have lB := runL_lo sc
  have hA := trainL_len st
  have hB := runL_len sc
  have rA := sp_read_trainG (l := trainL t) (by omega) lA
  rw [wds_train R.ne, trainIn_train st] at rA
  have rB := sp_read_run (l := runL c) (by omega) lB
  rw [runIn_run sc] at rB
  have q1 := sp_right (l := trainL t) (due := .lst .own (dl t)) (fd := dl t) (b := false) (.inr ⟨by simp, by simp, rA, by simp⟩) (by simp)
  have q2 := sp_right (l := runL c) (due := .lst .own (cms c)) (fd := cms c) (b := true) (.inr ⟨by simp, by simp, rB, eq_cms fun m hm => (sc m hm).1⟩) (by simp)
  rw [show (D.lst .own (dl t)).frz = .lst .frz (dl t) by simp] at q1
  rw [show (D.lst .own (cms c)).frz = .lst .frz (cms c) by simp] at q2
  obtain ⟨x6, x7, x8, x9, x10, x11, l1⟩ := all_bent (ns := ns) (n := n) (js := js) (t := t) (r := c) lA (by omega) lB (by omega)
  have t0 := st_line (m := 0) (c := 0) el
  have t1 := st_train ea em' et
  have t2 := st_run eb em2 er
  have t3 := st_one (ns := ns) (n := n) (js := js) (r := c) s1
  have t4 := st_two (ns := ns) (n := n) (js := js) (t := t) (A := trainL t) s2
  have t5 := st_bent l1
  have t6 := st_last (ns := ns) (n := n) (js := js) (x6 := x6) (x7 := x7) (x8 := x8) (x9 := x9) (x10 := x10) (x11 := x11) q1 q2
  have st0 : ([.lst .ro (dl ns)] ++ List.replicate (12 - 1) D.any) = [.lst .ro (dl ns), .any, .any, .any, .any, .any, .any, .any, .any, .any, .any, .any] := rfl
  simp only [aa_law, runS_val]
  rw [st0, law_eq, ex_cons, t0, thn_next, ex_cons, t1, thn_next, ex_cons, t2, thn_next, ex_cons, t3, thn_next, ex_cons, t4, thn_next, ex_cons, t5, thn_next, ex_cons, t6]
  rfl

end K74

theorem PySem.Challenge.cw_turnline_k74_other_texts_that_are_none_holds : PySem.Challenge.rw_turnline_k74_other_texts_that_are_none.Holds := by
  exact K74.law_holds 63 rfl (by decide) fun ns _ => K74.law_plain ns
