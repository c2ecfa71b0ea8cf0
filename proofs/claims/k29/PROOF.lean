import PyProof.Rows.All
import Wide.All
import OpenK.AllK
import Wide.FinOn
import KE.DataMinMax
import KE.DataIsa
import KE.DataFind
import KE.DataAny
import KE.DataCmp
import KE.DataEq
import KE.SortData
import HandS.List
import HandS.Base
import HandS.Call
import HandS.Comp
import HandS.Ends
import HandS.Exc
import HandS.ExcOwn
import HandS.WordsExc
import HandS.Lambda
import HandS.Iter
import HandS.Zip
import HandS.Wide
import HandS.TupAny
import HandS.TupMul
import HandS.Style
import HandS.Conv
import PyProof.SeqIndex
import HandS.ExcInit
import HandS.Defaults
import KE.GoesMore
import KE.GoesZip
import KE.GoesEnum
import HandS.SetFor
import HandS.ExcField
import KE.SortKeyHeap
import HandS.Sort
import HandS.Remove
import HandS.More
import HandS.Codes
import KE.KExcSuper
import HandS.EndTab
import HandS.HeadHook4
import HandS.HeadWalk
import HandS.NestedK
import HandS.Head2
import PySem.Challenge.RW_coatsback_k29_whole_owners_who_queue
/-! part PLCore -/
set_option Elab.async false
set_option linter.all false
set_option autoImplicit false
/-! A small language with values (PL): its syntax and its evaluator. Lists are values; a local list that is changed is owned by its slot. -/
namespace PL
open PySem

/-- a slot of a def: nothing known; a value; a list of its own; a list lent by the caller; a list of its own that is walked -/
inductive Slot where
  | non
  | val (d : PyData)
  | own (xs : List PyData)
  | io (xs : List PyData)
  | lk (xs : List PyData)
abbrev En := List Slot

/-- what an expression gives: a value, or a new list -/
inductive RV where
  | v (d : PyData)
  | l (xs : List PyData)
def RV.d : RV → PyData
  | .v d => d
  | .l xs => .list xs

inductive Out (α : Type) where
  | ok (a : α) (env : En)
  | exc (c : Nat) (s : Str) (env : En)
  | bad
def Out.bind {α β : Type} (o : Out α) (f : α → En → Out β) : Out β := match o with
  | .ok a env => f a env
  | .exc c s env => .exc c s env
  | .bad => .bad
def Out.lift {α : Type} (o : Option α) (env : En) : Out α := match o with
  | some a => .ok a env
  | none => .bad

/-! ### values -/
def intsOf : List PyData → Option (List Int)
  | [] => some []
  | .int i :: r => (intsOf r).map (i :: ·)
  | _ :: _ => none
def boolsOf : List PyData → Option (List Bool)
  | [] => some []
  | .bool i :: r => (boolsOf r).map (i :: ·)
  | _ :: _ => none
def truth : PyData → Option Bool
  | .none => some false
  | .bool b => some b
  | .int i => some (i != 0)
  | .list xs => some (!xs.isEmpty)
  | .tuple xs => some (!xs.isEmpty)
  | _ => none
def isNone : PyData → Bool
  | .none => true
  | _ => false
def isTup : PyData → Bool
  | .tuple _ => true
  | _ => false
def isTup1 : PyData → Bool
  | .tuple (_ :: _) => true
  | _ => false
def alikeL (xs : List PyData) : Bool := xs.all fun a => xs.all fun b => W.alike a b
def flatD (d : PyData) : Bool := decide (d.depth ≤ 40)
def flatA (xs : List PyData) : Bool := decide (PyData.depthAll xs ≤ 40)
def cmpOk (xs : List PyData) : Bool := alikeL xs && xs.all (fun a => !isNone a) && flatA xs
def sortOk (xs : List PyData) : Bool := alikeL xs && flatA xs && (xs.all isTup1 || (xs.all (fun a => !isNone a && !isTup a) || (decide (xs.length ≤ 1) && xs.all fun a => !isNone a)))
def sortD (xs : List PyData) : List PyData := xs.mergeSort (W.dataLe false id)
def szOk (n : Nat) : Bool := decide (n ≤ 16777216)
def mulOk (i j : Int) : Bool := decide (i.natAbs < 2 ^ 64) || decide (j.natAbs < 2 ^ 64) || (decide (i.natAbs < 2 ^ 4000) && decide (j.natAbs < 2 ^ 4000))
def divOk (j : Int) : Bool := decide (0 < j) && decide (j.natAbs < 2 ^ 4000)

inductive Ty where
  | int | bool | tuple | str | list
def tyIs : Ty → PyData → Bool
  | .int, d => d.isInt
  | .bool, d => d.isBool
  | .tuple, d => d.isTuple
  | .str, d => d.isStr
  | .list, d => d.isList

inductive Op1 where
  | neg | abs | int1 | len | sum | max | min | all | any | tuple | list | sorted | isN | notN | isF | notF
  | inst (t : Ty) | rev
inductive Op2 where
  | add | sub | mul | fdiv | mod | pow | eq | ne | lt | le | gt | ge | inn | nin | ix | max2 | min2 | index | count

def sem1 : Op1 → PyData → Option RV
  | .neg, .int i => some (.v (.int (-i)))
  | .abs, .int i => some (.v (.int (if i < 0 then -i else i)))
  | .int1, .int i => some (.v (.int i))
  | .int1, .bool b => some (.v (.int (if b then 1 else 0)))
  | .len, .list xs => some (.v (.int xs.length))
  | .len, .tuple xs => some (.v (.int xs.length))
  | .sum, .list xs => (intsOf xs).map fun ns => .v (.int ns.sum)
  | .sum, .tuple xs => (intsOf xs).map fun ns => .v (.int ns.sum)
  | .max, .list (x :: xs) => if cmpOk (x :: xs) then some (.v (W.maxD x xs)) else none
  | .max, .tuple (x :: xs) => if cmpOk (x :: xs) then some (.v (W.maxD x xs)) else none
  | .min, .list (x :: xs) => if cmpOk (x :: xs) then some (.v (W.minD x xs)) else none
  | .min, .tuple (x :: xs) => if cmpOk (x :: xs) then some (.v (W.minD x xs)) else none
  | .all, .list xs => (boolsOf xs).map fun bs => .v (.bool (bs.all id))
  | .any, .list xs => (boolsOf xs).map fun bs => .v (.bool (bs.any id))
  | .tuple, .list xs => some (.v (.tuple xs))
  | .tuple, .tuple xs => some (.v (.tuple xs))
  | .list, .list xs => some (.l xs)
  | .list, .tuple xs => some (.l xs)
  | .sorted, .list xs => if sortOk xs then some (.l (sortD xs)) else none
  | .sorted, .tuple xs => if sortOk xs then some (.l (sortD xs)) else none
  | .isN, d => some (.v (.bool (isNone d)))
  | .notN, d => some (.v (.bool (!isNone d)))
  | .isF, .bool b => some (.v (.bool (!b)))
  | .notF, .bool b => some (.v (.bool b))
  | .inst t, d => some (.v (.bool (tyIs t d)))
  | .rev, .list xs => some (.l xs.reverse)
  | .rev, .tuple xs => some (.v (.tuple xs.reverse))
  | _, _ => none

def cmpSem (f : Int → Int → Bool) (g : PyData → PyData → Bool) : PyData → PyData → Option RV
  | .int i, .int j => some (.v (.bool (f i j)))
  | a, b => if W.alike a b && !isNone a && flatD a then some (.v (.bool (g a b))) else none
def sem2 : Op2 → PyData → PyData → Option RV
  | .add, .int i, .int j => some (.v (.int (i + j)))
  | .add, .tuple xs, .tuple ys => if szOk (xs.length + ys.length) then some (.v (.tuple (xs ++ ys))) else none
  | .add, .list xs, .list ys => if szOk (xs.length + ys.length) then some (.l (xs ++ ys)) else none
  | .sub, .int i, .int j => some (.v (.int (i - j)))
  | .mul, .int i, .int j => if mulOk i j then some (.v (.int (i * j))) else none
  | .mul, .tuple xs, .int k => if 1 ≤ k ∧ k ≤ 1000 ∧ xs.length ≤ 1000 ∧ xs ≠ [] then some (.v (.tuple (List.replicate k.toNat xs).flatten)) else none
  | .fdiv, .int i, .int j => if divOk j then some (.v (.int (i / j))) else none
  | .mod, .int i, .int j => if 0 < j then some (.v (.int (i % j))) else none
  | .pow, .int i, .int j => if 0 ≤ j ∧ j ≤ 1000 ∧ i.natAbs < 1000 then some (.v (.int (i ^ j.toNat))) else none
  | .eq, a, b => if flatD a && flatD b then some (.v (.bool (PyData.eqv a b))) else none
  | .ne, a, b => if flatD a && flatD b then some (.v (.bool (!PyData.eqv a b))) else none
  | .lt, a, b => cmpSem (fun i j => decide (i < j)) W.dataLt a b
  | .le, a, b => cmpSem (fun i j => decide (i ≤ j)) (fun a b => !W.dataLt b a) a b
  | .gt, a, b => cmpSem (fun i j => decide (j < i)) (fun a b => W.dataLt b a) a b
  | .ge, a, b => cmpSem (fun i j => decide (j ≤ i)) (fun a b => !W.dataLt a b) a b
  | .inn, d, .list xs => if flatD d then some (.v (.bool (xs.any fun z => PyData.eqv z d))) else none
  | .inn, d, .tuple xs => if flatD d then some (.v (.bool (xs.any fun z => PyData.eqv z d))) else none
  | .nin, d, .list xs => if flatD d then some (.v (.bool (!xs.any fun z => PyData.eqv z d))) else none
  | .nin, d, .tuple xs => if flatD d then some (.v (.bool (!xs.any fun z => PyData.eqv z d))) else none
  | .ix, .list xs, .int i => (L2.atI xs i).map .v
  | .ix, .tuple xs, .int i => (L2.atI xs i).map .v
  | .max2, .int i, .int j => some (.v (.int (if j > i then j else i)))
  | .min2, .int i, .int j => some (.v (.int (if j < i then j else i)))
  | .index, .list xs, d => if flatD d then (xs.findIdx? fun z => PyData.eqv z d).map fun j => .v (.int (j : Nat)) else none
  | .index, .tuple xs, d => if flatD d then (xs.findIdx? fun z => PyData.eqv z d).map fun j => .v (.int (j : Nat)) else none
  | .count, .tuple xs, d => if flatD d then some (.v (.int (xs.countP fun z => PyData.eqv z d : Nat))) else none
  | .count, .list xs, d => if flatD d then some (.v (.int (xs.countP fun z => PyData.eqv z d : Nat))) else none
  | _, _, _ => none

/-- of a list, of a tuple -/
def semM (tp : Bool) (o : Op2) (u v : PyData) : Option RV := if isTup u = tp then sem2 o u v else none
@[simp] theorem semM_lst (o : Op2) (xs : List PyData) (v : PyData) : semM false o (.list xs) v = sem2 o (.list xs) v := rfl
@[simp] theorem semM_tup (o : Op2) (xs : List PyData) (v : PyData) : semM true o (.tuple xs) v = sem2 o (.tuple xs) v := rfl

/-- how many ints there are -/
def uniq : List Int → List Int
  | [] => []
  | x :: xs => if x ∈ xs then uniq xs else x :: uniq xs
def lenSetD : PyData → Option RV
  | .tuple xs => if xs.length ≤ 1000 then (intsOf xs).map fun ns => .v (.int ((uniq ns).length : Nat)) else none
  | _ => none
/-- a slice: of a list a new list, of a tuple a tuple -/
def cutD (xs : List PyData) (lo hi : Option Int) : List PyData :=
  (xs.drop (HT.sIx xs.length 0 lo)).take (HT.sIx xs.length xs.length hi - HT.sIx xs.length 0 lo)
def semSl : PyData → Option Int → Option Int → Option RV
  | .list xs, lo, hi => some (.l (cutD xs lo hi))
  | .tuple xs, lo, hi => some (.v (.tuple (cutD xs lo hi)))
  | _, _, _ => none

/-! ### slots -/
def En.gt (env : En) (i : Nat) : Slot := env.getD i .non
/-- a name read as a value: its list is no longer its own -/
def rdV (i : Nat) (env : En) : Out RV := match env.gt i with
  | .val d => .ok (.v d) env
  | .own xs => .ok (.v (.list xs)) (env.set i (.val (.list xs)))
  | _ => .bad
/-- a name looked at -/
def rdB (i : Nat) (env : En) : Option PyData := match env.gt i with
  | .val d => some d
  | .own xs => some (.list xs)
  | .io xs => some (.list xs)
  | .lk xs => some (.list xs)
  | .non => none
/-- a list that may be changed -/
def rdM (i : Nat) (env : En) : Option (List PyData) := match env.gt i with
  | .own xs => some xs
  | .io xs => some xs
  | _ => none
def keepK : Slot → List PyData → Slot
  | .io _, xs => .io xs
  | _, xs => .own xs
def wrM (i : Nat) (xs : List PyData) (env : En) : En := env.set i (keepK (env.gt i) xs)
/-- may be stored into -/
def free (i : Nat) (env : En) : Bool := match env.gt i with
  | .io _ => false
  | .lk _ => false
  | _ => decide (i < env.length)
def stV (i : Nat) (d : PyData) (env : En) : Option En := if free i env then some (env.set i (.val d)) else none
def wipeE (env : En) : List Nat → En
  | [] => env
  | i :: is => (wipeE env is).set i .non
def lockE (env : En) : List Nat → En
  | [] => env
  | i :: is => match env.gt i with
    | .own xs => (lockE env is).set i (.lk xs)
    | _ => lockE env is
/-- the slots at is as they were in old -/
def backE (old env : En) : List Nat → En
  | [] => env
  | i :: is => (backE old env is).set i (old.gt i)
/-- what a loop forgets: never a lent list -/
def forgE (env : En) : List Nat → En
  | [] => env
  | i :: is => match env.gt i with
    | .io _ => forgE env is
    | .lk _ => forgE env is
    | _ => (forgE env is).set i .non

inductive Pat where
  | nm (i : Nat)
  | two (p q : Pat)
  | three (p q r : Pat)
def bindP : Pat → PyData → En → Option En
  | .nm i, d, env => stV i d env
  | .two p q, .tuple [a, b], env => (bindP p a env).bind (bindP q b)
  | .three p q r, .tuple [a, b, c], env => (bindP p a env).bind fun e => (bindP q b e).bind (bindP r c)
  | _, _, _ => none

/-! ### calls -/
inductive FOut where
  | ok (r : RV) (args : List Slot)
  | exc (c : Nat) (s : Str)
  | bad
abbrev FT := Nat → List Slot → FOut
def callV (ft : FT) (f : Nat) (ds : List PyData) (env : En) : Out RV := match ft f (ds.map .val) with
  | .ok r _ => .ok r env
  | .exc c s => .exc c s env
  | .bad => .bad
/-- the list at slot i lent -/
def callI (ft : FT) (f i : Nat) (ds : List PyData) (env : En) : Out RV := match rdM i env with
  | some xs => match ft f (.io xs :: ds.map .val) with
    | .ok r (.io ys :: _) => .ok r (wrM i ys env)
    | _ => .bad
  | none => .bad

/-! ### the syntax -/
mutual
inductive E where
  | var (i : Nat)
  | none
  | bool (b : Bool)
  | int (i : Int)
  | str (s : Str)
  | glob (k : Nat)
  | op1 (o : Op1) (a : O)
  | op2 (o : Op2) (a b : O)
  | meth (o : Op2) (a b : O)
  | chain (o1 o2 : Op2) (a b c : E)
  | andE (a b : E)
  | orE (a b : E)
  | notE (a : E)
  | ifE (c a b : E)
  | tup (es : Es)
  | lst (es : Es)
  | sl (a : O) (lo hi : SE)
  | call (f : Nat) (es : Es)
  | callIo (f i : Nat) (es : Es)
  | callK (f : Nat) (perm : List Nat) (es : Es)
  | comp (own : List Nat) (p : Pat) (it : It) (hc : Bool) (c e : E)
  | comp2 (own own2 : List Nat) (p : Pat) (it : It) (p2 : Pat) (it2 : It) (hc : Bool) (c e : E)
  | pop (i : Nat) (a : E)
  | repL (es : Es) (n : E)
  | lenSet (a : O)
  | listR (it : It)
  | tupR (it : It)
  | inR (neg : Bool) (a : E) (it : It)
  | sortK (it : It) (i : Nat) (b : E)
  | minK (a : O) (i : Nat) (b : E)
  | sortSet (a : O)
  | inD (neg : Bool) (a : E) (x : Str) (tab : List (Str × Int))
  | ixD (a : E) (x : Str) (tab : List (Str × Int))
  | told (k : Nat) (c : Nat) (e : E)
inductive O where
  | e (x : E)
  | b (i : Nat)
inductive SE where
  | no
  | so (e : E)
inductive Es where
  | nil
  | cons (e : E) (es : Es)
inductive It where
  | r1 (a : E)
  | r2 (a b : E)
  | r3 (a b c : E)
  | seq (o : O)
  | enum (o : O)
  | zip (a b : O)
  | zip3 (a b c : O)
end
def O.lk : O → List Nat
  | .e _ => []
  | .b i => [i]
def It.pr : It → Bool
  | .enum _ => true
  | .zip _ _ => true
  | .zip3 _ _ _ => true
  | _ => false
def Pat.isT : Pat → Bool
  | .nm _ => false
  | _ => true
def It.lk : It → List Nat
  | .seq o => o.lk
  | .enum o => o.lk
  | .zip a b => a.lk ++ b.lk
  | .zip3 a b c => a.lk ++ (b.lk ++ c.lk)
  | _ => []

/-! ### walks -/
def rngD (lo : Int) (n : Nat) : List PyData := (List.range n).map fun i => .int (lo + (i : Nat))
def smallI (i : Int) : Bool := decide (-(2 ^ 62) ≤ i) && decide (i < 2 ^ 62)
def seqOf : PyData → Option (List PyData)
  | .list xs => some xs
  | .tuple xs => some xs
  | _ => none
def rng1 : PyData → Option (List PyData)
  | .int j => if smallI j then some (rngD 0 j.toNat) else none
  | _ => none
def rng2 : PyData → PyData → Option (List PyData)
  | .int i, .int j => if smallI i && smallI j then some (rngD i (j - i).toNat) else none
  | _, _ => none
/-- range(i, j, -1) alone -/
def rng3 : PyData → PyData → PyData → Option (List PyData)
  | .int i, .int j, .int c => if smallI i && smallI j && decide (c = -1) then some ((List.range (i - j).toNat).map fun k => .int (i - (k : Nat))) else none
  | _, _, _ => none
def enumD (xs : List PyData) : List PyData := (List.range xs.length).zipWith (fun i d => .tuple [.int (i : Nat), d]) xs
def zipD (xs ys : List PyData) : List PyData := xs.zipWith (fun a b => .tuple [a, b]) ys
def zip3D : List PyData → List PyData → List PyData → List PyData
  | a :: xs, b :: ys, c :: zs => .tuple [a, b, c] :: zip3D xs ys zs
  | _, _, _ => []
def compLoop (own : List Nat) (bd : PyData → En → Option En) (cf : En → Out Bool) (ef : En → Out RV) : List PyData → En → Out (List PyData)
  | [], en => .ok [] en
  | x :: xs, en => match bd x en with
    | none => .bad
    | some e1 => match cf e1 with
      | .ok true e2 => match ef e2 with
        | .ok d e3 => match compLoop own bd cf ef xs (wipeE e3 own) with
          | .ok ds e4 => .ok (d.d :: ds) e4
          | _ => .bad
        | _ => .bad
      | .ok false e2 => compLoop own bd cf ef xs (wipeE e2 own)
      | _ => .bad
/-- the inner walk of two fors -/
def compIn (own2 : List Nat) (bd : PyData → En → Option En) (cf : En → Out Bool) (ef : En → Out RV) : List PyData → En → Out (List PyData) := compLoop own2 bd cf ef
def compOut (own : List Nat) (bd : PyData → En → Option En) (inner : En → Out (List PyData)) : List PyData → En → Out (List PyData)
  | [], en => .ok [] en
  | x :: xs, en => match bd x en with
    | none => .bad
    | some e1 => match inner e1 with
      | .ok ds e2 => match compOut own bd inner xs (wipeE e2 own) with
        | .ok es e3 => .ok (ds ++ es) e3
        | _ => .bad
      | _ => .bad
def compEnd (own ls : List Nat) (env : En) : Out (List PyData) → Out RV
  | .ok ds en => if szOk ds.length then .ok (.l ds) (backE env en (own ++ ls)) else .bad
  | _ => .bad
/-- none of these is lent, none is among own -/
def walkable (own : List Nat) (env : En) (ls : List Nat) : Bool := ls.all fun i => !own.contains i && (match env.gt i with
  | .io _ => false
  | _ => true)
def oneI : RV → Option (Option Int)
  | .v (.int i) => some (some i)
  | _ => none
def tst (o : Out RV) : Out Bool := o.bind fun r en => .lift (truth r.d) en
def nots : Str := Str.ofString "not "
/-- the values alone: what a key's def may look at -/
def valS : Slot → Slot
  | .val d => .val d
  | _ => .non
def valE (env : En) : En := env.map valS
/-- the keys of some things, each by the name at i -/
def keysOf (f : En → Out RV) (i : Nat) (env : En) : List PyData → Option (List PyData)
  | [] => some []
  | x :: xs => match f (env.set i (.val x)) with
    | .ok (.v d) _ => (keysOf f i env xs).map (d :: ·)
    | _ => none
def sortKD (xs ks : List PyData) : List PyData := ((xs.zip ks).mergeSort (W.dataLe false (·.2))).map (·.1)
/-- the first of those with the least key -/
def minGo : PyData × PyData → List (PyData × PyData) → PyData
  | b, [] => b.1
  | b, q :: r => if W.dataLt q.2 b.2 then minGo q r else minGo b r
def minKD : List PyData → List PyData → Option PyData
  | x :: xs, k :: ks => some (minGo (x, k) (xs.zip ks))
  | _, _ => none
def usort (ns : List Int) : List Int := (uniq ns).mergeSort fun a b => decide (a ≤ b)
def sortSetD : PyData → Option RV
  | .tuple xs => if xs.length ≤ 1000 then (intsOf xs).bind fun ns => if (uniq ns).length < 64 then some (.l ((usort ns).map .int)) else none else none
  | .list xs => if xs.length ≤ 1000 then (intsOf xs).bind fun ns => if (uniq ns).length < 64 then some (.l ((usort ns).map .int)) else none else none
  | _ => none
def tabAt (tab : List (Str × Int)) (s : Str) : Option Int := (tab.find? fun p => decide (p.1 = s)).map (·.2)

/-! ### the evaluator -/
mutual
def evE (ft : FT) (gl : List PyData) : E → En → Out RV
  | .var i, env => rdV i env
  | .none, env => .ok (.v .none) env
  | .bool b, env => .ok (.v (.bool b)) env
  | .int i, env => .ok (.v (.int i)) env
  | .str s, env => .ok (.v (.str s)) env
  | .glob k, env => .lift ((gl[k]?).map .v) env
  | .op1 o a, env => (evO ft gl a env).bind fun x e1 => .lift ((rsO a x e1).bind (sem1 o)) e1
  | .op2 o a b, env => (evO ft gl a env).bind fun x e1 => (evO ft gl b e1).bind fun y e2 => .lift ((rsO a x e2).bind fun u => (rsO b y e2).bind fun v => sem2 o u v) e2
  | .meth o a b, env => (evO ft gl a env).bind fun x e1 => match rsO a x e1 with
    | some (.list _) => (evO ft gl b e1).bind fun y e2 => .lift ((rsO a x e2).bind fun u => (rsO b y e2).bind fun v => semM false o u v) e2
    | some (.tuple _) => (evO ft gl b e1).bind fun y e2 => .lift ((rsO a x e2).bind fun u => (rsO b y e2).bind fun v => semM true o u v) e2
    | _ => .bad
  | .chain o1 o2 a b c, env => (evE ft gl a env).bind fun x e1 => (evE ft gl b e1).bind fun y e2 => match sem2 o1 x.d y.d with
    | some (.v (.bool true)) => (evE ft gl c e2).bind fun z e3 => .lift (sem2 o2 y.d z.d) e3
    | some (.v (.bool false)) => .ok (.v (.bool false)) e2
    | _ => .bad
  | .andE a b, env => (evE ft gl a env).bind fun x e1 => match x.d with
    | .bool true => evE ft gl b e1
    | .bool false => .ok (.v (.bool false)) e1
    | _ => .bad
  | .orE a b, env => (evE ft gl a env).bind fun x e1 => match x.d with
    | .bool false => evE ft gl b e1
    | .bool true => .ok (.v (.bool true)) e1
    | _ => .bad
  | .notE a, env => (tst (evE ft gl a env)).bind fun b e1 => .ok (.v (.bool (!b))) e1
  | .ifE c a b, env => (tst (evE ft gl c env)).bind fun k e1 => if k then evE ft gl a e1 else evE ft gl b e1
  | .tup es, env => (evEs ft gl es env).bind fun ds e1 => if szOk ds.length then .ok (.v (.tuple ds)) e1 else .bad
  | .lst es, env => (evEs ft gl es env).bind fun ds e1 => if szOk ds.length then .ok (.l ds) e1 else .bad
  | .sl a lo hi, env => (evO ft gl a env).bind fun x e1 => (evS ft gl lo e1).bind fun l e2 => (evS ft gl hi e2).bind fun h e3 => .lift ((rsO a x e3).bind fun u => semSl u l h) e3
  | .call f es, env => (evEs ft gl es env).bind fun ds e1 => callV ft f ds e1
  | .callIo f i es, env => if (rdM i env).isNone then .bad else (evEs ft gl es env).bind fun ds e1 => callI ft f i ds e1
  | .callK f perm es, env => (evEs ft gl es env).bind fun ds e1 => if ds.length = perm.length then (match perm.mapM fun j => ds[j]? with
    | some vs => callV ft f vs e1
    | Option.none => .bad) else .bad
  | .comp own p it hc c e, env => (evIt ft gl it env).bind fun xs e1 =>
    if walkable own e1 it.lk then compEnd own it.lk e1 (compLoop own (bindP p) (fun en => if hc then tst (evE ft gl c en) else .ok true en) (fun en => evE ft gl e en) xs (lockE (wipeE e1 own) it.lk)) else .bad
  | .comp2 own own2 p it p2 it2 hc c e, env => (evIt ft gl it env).bind fun xs e1 =>
    if walkable own e1 it.lk then compEnd own it.lk e1 (compOut own (bindP p) (fun en => (evIt ft gl it2 en).bind fun ys e2 =>
      if walkable own2 e2 it2.lk then (compLoop own2 (bindP p2) (fun en => if hc then tst (evE ft gl c en) else .ok true en) (fun en => evE ft gl e en) ys (lockE (wipeE e2 own2) it2.lk)).bind fun ds e3 => .ok ds (backE e2 e3 (own2 ++ it2.lk)) else .bad) xs (lockE (wipeE e1 own) it.lk)) else .bad
  | .pop i a, env => if (rdM i env).isNone then .bad else (evE ft gl a env).bind fun x e1 => match x.d, rdM i e1 with
    | .int k, some xs => match L2.ixN xs.length k with
      | some j => match xs[j]? with
        | some d => if smallI k then .ok (.v d) (wrM i (xs.eraseIdx j) e1) else .bad
        | Option.none => .bad
      | Option.none => .bad
    | _, _ => .bad
  | .repL es n, env => (evEs ft gl es env).bind fun ds e1 => if ds.length ≤ 1000 then (evE ft gl n e1).bind fun y e2 => match y.d with
    | .int k => if 0 ≤ k ∧ k ≤ 1000 then .ok (.l (List.replicate k.toNat ds).flatten) e2 else .bad
    | _ => .bad
    else .bad
  | .lenSet a, env => (evO ft gl a env).bind fun x e1 => .lift ((rsO a x e1).bind lenSetD) e1
  | .listR it, env => (evIt ft gl it env).bind fun xs e1 => if szOk xs.length then .ok (.l xs) e1 else .bad
  | .tupR it, env => (evIt ft gl it env).bind fun xs e1 => if szOk xs.length then .ok (.v (.tuple xs)) e1 else .bad
  | .inR neg a it, env => (evE ft gl a env).bind fun x e1 => (evIt ft gl it e1).bind fun xs e2 => match x.d with
    | .int i => .ok (.v (.bool (neg != (xs.any fun z => PyData.eqv z (.int i))))) e2
    | _ => .bad
  | .sortK it i b, env => (evIt ft gl it env).bind fun xs e1 => if i < e1.length then (match keysOf (fun en => evE ft gl b en) i (valE e1) xs with
    | some ks => if sortOk ks && szOk xs.length then .ok (.l (sortKD xs ks)) e1 else .bad
    | Option.none => .bad) else .bad
  | .minK a i b, env => (evO ft gl a env).bind fun x e1 => if i < e1.length then (match (rsO a x e1).bind seqOf with
    | some xs => (match keysOf (fun en => evE ft gl b en) i (valE e1) xs with
      | some ks => if cmpOk ks then .lift ((minKD xs ks).map .v) e1 else .bad
      | Option.none => .bad)
    | Option.none => .bad) else .bad
  | .sortSet a, env => (evO ft gl a env).bind fun x e1 => .lift ((rsO a x e1).bind sortSetD) e1
  | .inD neg a _ tab, env => (evE ft gl a env).bind fun x e1 => match x.d with
    | .str s => .ok (.v (.bool (neg != (tabAt tab s).isSome))) e1
    | _ => .bad
  | .ixD a _ tab, env => (evE ft gl a env).bind fun x e1 => match x.d with
    | .str s => .lift ((tabAt tab s).map fun i => .v (.int i)) e1
    | _ => .bad
  | .told k c e, env => match evE ft gl e env with
    | .ok r e1 => if k = 0 then .ok (.v (.str (Str.ofString ""))) e1 else .ok r e1
    | .exc c' s e1 => if c' = c then .ok (.v (.str (if k = 0 then s else nots ++ s))) e1 else .bad
    | .bad => .bad
def evO (ft : FT) (gl : List PyData) : O → En → Out (Option RV)
  | .e x, env => (evE ft gl x env).bind fun r e1 => .ok (some r) e1
  | .b i, env => .lift ((rdB i env).map fun _ => Option.none) env
/-- an operand at the place where it is used -/
def rsO : O → Option RV → En → Option PyData
  | .e _, r, _ => r.map RV.d
  | .b i, _, env => rdB i env
def evS (ft : FT) (gl : List PyData) : SE → En → Out (Option Int)
  | .no, env => .ok Option.none env
  | .so e, env => (evE ft gl e env).bind fun r e1 => .lift (oneI (.v r.d)) e1
def evEs (ft : FT) (gl : List PyData) : Es → En → Out (List PyData)
  | .nil, env => .ok [] env
  | .cons e es, env => (evE ft gl e env).bind fun r e1 => (evEs ft gl es e1).bind fun ds e2 => .ok (r.d :: ds) e2
def evIt (ft : FT) (gl : List PyData) : It → En → Out (List PyData)
  | .r1 a, env => (evE ft gl a env).bind fun x e1 => .lift (rng1 x.d) e1
  | .r2 a b, env => (evE ft gl a env).bind fun x e1 => (evE ft gl b e1).bind fun y e2 => .lift (rng2 x.d y.d) e2
  | .r3 a b c, env => (evE ft gl a env).bind fun x e1 => (evE ft gl b e1).bind fun y e2 => (evE ft gl c e2).bind fun z e3 => .lift (rng3 x.d y.d z.d) e3
  | .seq a, env => (evO ft gl a env).bind fun x e1 => .lift ((rsO a x e1).bind seqOf) e1
  | .enum a, env => (evO ft gl a env).bind fun x e1 => .lift (((rsO a x e1).bind seqOf).map enumD) e1
  | .zip a b, env => (evO ft gl a env).bind fun x e1 => (evO ft gl b e1).bind fun y e2 => .lift (((rsO a x e2).bind seqOf).bind fun xs => ((rsO b y e2).bind seqOf).map fun ys => zipD xs ys) e2
  | .zip3 a b c, env => (evO ft gl a env).bind fun x e1 => (evO ft gl b e1).bind fun y e2 => (evO ft gl c e2).bind fun z e3 =>
    .lift (((rsO a x e3).bind seqOf).bind fun xs => ((rsO b y e3).bind seqOf).bind fun ys => ((rsO c z e3).bind seqOf).map fun zs => zip3D xs ys zs) e3
end

/-! ### statements -/
inductive SOut where
  | nx (env : En)
  | ret (r : RV) (env : En)
  | brk (env : En)
  | exc (c : Nat) (s : Str) (env : En)
  | bad
def SOut.of {α : Type} (o : Out α) (f : α → En → SOut) : SOut := match o with
  | .ok a env => f a env
  | .exc c s env => .exc c s env
  | .bad => .bad
def SOut.seq (o : SOut) (f : En → SOut) : SOut := match o with
  | .nx env => f env
  | o => o
def SOut.opt (o : Option En) : SOut := match o with
  | some env => .nx env
  | none => .bad
mutual
inductive S where
  | expr (e : E)
  | ret (e : E)
  | retV (i : Nat)
  | retN
  | set (m : Bool) (i : Nat) (e : E)
  | setT (ms : List (Bool × Nat)) (es : Es)
  | setP (p : Pat) (e : E)
  | setI (i : Nat) (ix e : E)
  | setII (i1 : Nat) (ix1 : E) (i2 : Nat) (ix2 : E) (a b : E)
  | aug (i : Nat) (e : E)
  | augI (i : Nat) (ix e : E)
  | app (i : Nat) (e : E)
  | ins (i : Nat) (a e : E)
  | rem (i : Nat) (e : E)
  | ifS (c : E) (a b : Ss)
  | forS (p : Pat) (it : It) (body : Ss) (w : List Nat)
  | whileS (c : E) (body : Ss) (w : List Nat)
  | brk
  | raiseS (c : Nat) (e : E)
inductive Ss where
  | nil
  | cons (s : S) (ss : Ss)
end
def setR (m : Bool) (i : Nat) (r : RV) (env : En) : Option En := if free i env then
    match m, r with
    | true, .l xs => some (env.set i (.own xs))
    | _, r => some (env.set i (.val r.d))
  else none
/-- the values of an Es, a new list kept as such -/
def evRs (ft : FT) (gl : List PyData) : List Bool → Es → En → Out (List RV)
  | _, .nil, env => .ok [] env
  | m :: ms, .cons e es, env => (evE ft gl e env).bind fun r e1 => (evRs ft gl ms es e1).bind fun ds e2 => .ok ((if m then r else .v r.d) :: ds) e2
  | [], .cons _ _, _ => .bad
def setRs : List (Bool × Nat) → List RV → En → Option En
  | [], [], env => some env
  | (m, i) :: ms, r :: rs, env => (setR m i r env).bind (setRs ms rs)
  | _, _, _ => none
def forLoop (bd : PyData → En → Option En) (w : List Nat) (body : En → SOut) : List PyData → En → SOut
  | [], env => .nx env
  | x :: xs, env => match bd x env with
    | none => .bad
    | some e1 => match body e1 with
      | .nx e2 => forLoop bd w body xs (forgE e2 w)
      | .brk e2 => .nx (forgE e2 w)
      | o => o
def whileLoop (w : List Nat) (c : En → Out Bool) (body : En → SOut) : Nat → En → SOut
  | 0, _ => .bad
  | n + 1, env => match c env with
    | .ok false e1 => .nx e1
    | .ok true e1 => match body e1 with
      | .nx e2 => whileLoop w c body n (forgE e2 w)
      | .brk e2 => .nx (forgE e2 w)
      | o => o
    | .exc c s e1 => .exc c s e1
    | .bad => .bad
def strOf : PyData → Option Str
  | .str s => some s
  | _ => none
mutual
def exS (ft : FT) (gl : List PyData) (fuel : Nat) : S → En → SOut
  | .expr e, env => .of (evE ft gl e env) fun _ e1 => .nx e1
  | .ret e, env => .of (evE ft gl e env) fun r e1 => .ret r e1
  | .retV i, env => match env.gt i with
    | .own xs => .ret (.l xs) (env.set i .non)
    | .val d => .ret (.v d) env
    | _ => .bad
  | .retN, env => .ret (.v .none) env
  | .set m i e, env => .of (evE ft gl e env) fun r e1 => .opt (setR m i r e1)
  | .setT ms es, env => .of (evRs ft gl (ms.map (·.1)) es env) fun rs e1 => .opt (setRs ms rs e1)
  | .setP p e, env => .of (evE ft gl e env) fun r e1 => .opt (bindP p r.d e1)
  | .setI i ix e, env => if (rdM i env).isNone then .bad else .of (evE ft gl e env) fun r e1 => .of (evE ft gl ix e1) fun k e2 => match k.d, rdM i e2 with
    | .int k, some xs => match L2.ixN xs.length k with
      | some j => .nx (wrM i (xs.set j r.d) e2)
      | none => .bad
    | _, _ => .bad
  | .setII i1 ix1 i2 ix2 a b, env => if (rdM i1 env).isNone || (rdM i2 env).isNone then .bad else .of (evE ft gl a env) fun u e1 => .of (evE ft gl b e1) fun v e2 => .of (evE ft gl ix1 e2) fun k e3 => match k.d, rdM i1 e3 with
    | .int k, some xs => match L2.ixN xs.length k with
      | some j => .of (evE ft gl ix2 (wrM i1 (xs.set j u.d) e3)) fun k2 e4 => match k2.d, rdM i2 e4 with
        | .int k2, some ys => match L2.ixN ys.length k2 with
          | some j2 => .nx (wrM i2 (ys.set j2 v.d) e4)
          | none => .bad
        | _, _ => .bad
      | none => .bad
    | _, _ => .bad
  | .aug i e, env => match env.gt i with
    | .val x => .of (evE ft gl e env) fun r e1 => match x, r.d with
      | .int a, .int b => .opt (stV i (.int (a + b)) e1)
      | _, _ => .bad
    | _ => .bad
  | .augI i ix e, env => if (rdM i env).isNone then .bad else .of (evE ft gl ix env) fun k e1 => match k.d, rdM i e1 with
    | .int k, some xs => match L2.ixN xs.length k with
      | some j => match xs[j]? with
        | some (.int a) => .of (evE ft gl e e1) fun r e2 => match r.d, rdM i e2 with
          | .int b, some ys => match L2.ixN ys.length k with
            | some j2 => .nx (wrM i (ys.set j2 (.int (a + b))) e2)
            | none => .bad
          | _, _ => .bad
        | _ => .bad
      | none => .bad
    | _, _ => .bad
  | .app i e, env => if (rdM i env).isNone then .bad else .of (evE ft gl e env) fun r e1 => match rdM i e1 with
    | some xs => if szOk (xs.length + 1) then .nx (wrM i (xs ++ [r.d]) e1) else .bad
    | none => .bad
  | .ins i a e, env => if (rdM i env).isNone then .bad else .of (evE ft gl a env) fun k e1 => .of (evE ft gl e e1) fun r e2 => match k.d, rdM i e2 with
    | .int k, some xs => if 0 ≤ k ∧ k ≤ xs.length ∧ szOk (xs.length + 1) = true then .nx (wrM i (xs.take k.toNat ++ r.d :: xs.drop k.toNat) e2) else .bad
    | _, _ => .bad
  | .rem i e, env => if (rdM i env).isNone then .bad else .of (evE ft gl e env) fun r e1 => match r.d, (rdM i e1).bind intsOf with
    | .int k, some ns => if k ∈ ns then .nx (wrM i ((ns.erase k).map .int) e1) else .bad
    | _, _ => .bad
  | .ifS c a b, env => .of (tst (evE ft gl c env)) fun k e1 => if k then exSs ft gl fuel a e1 else exSs ft gl fuel b e1
  | .forS p it body w, env => .of (evIt ft gl it env) fun xs e1 => forLoop (bindP p) w (fun en => exSs ft gl fuel body en) xs (forgE e1 w)
  | .whileS c body w, env => whileLoop w (fun en => tst (evE ft gl c en)) (fun en => exSs ft gl fuel body en) fuel (forgE env w)
  | .brk, env => .brk env
  | .raiseS c e, env => .of (evE ft gl e env) fun r e1 => match strOf r.d with
    | some s => .exc c s e1
    | none => .bad
def exSs (ft : FT) (gl : List PyData) (fuel : Nat) : Ss → En → SOut
  | .nil, env => .nx env
  | .cons s ss, env => (exS ft gl fuel s env).seq fun e1 => exSs ft gl fuel ss e1
end

/-! ### programs -/
structure Fd where
  /-- parameters; how many slots -/
  ar : Nat
  slots : Nat
  body : Ss
def okArgs : List Slot → Bool
  | [] => true
  | .val _ :: r => okArgs r
  | .io _ :: r => okArgs r
  | _ => false
/-- the lent lists as they are now, the rest as it was given -/
def retA : List Slot → En → List Slot
  | .io _ :: r, s :: e => s :: retA r e
  | a :: r, _ :: e => a :: retA r e
  | r, _ => r
def runF (ft : FT) (gl : List PyData) (fuel : Nat) (fd : Fd) (args : List Slot) : FOut :=
  if args.length = fd.ar ∧ fd.ar ≤ fd.slots ∧ okArgs args then
    match exSs ft gl fuel fd.body (args ++ List.replicate (fd.slots - fd.ar) .non) with
    | .nx env => .ok (.v .none) (retA args env)
    | .ret r env => .ok r (retA args env)
    | .exc c s env => .exc c s
    | _ => .bad
  else .bad
/-- the defs, called at most n deep -/
def callF (P : List Fd) (gl : List PyData) (fuel : Nat) : Nat → FT
  | 0 => fun _ _ => .bad
  | n + 1 => fun f args => match P[f]? with
    | some fd => runF (callF P gl fuel n) gl fuel fd args
    | none => .bad
end PL

/-! part PLRep -/
set_option Elab.async false
set_option linter.all false
set_option autoImplicit false
set_option maxRecDepth 100000
set_option maxHeartbeats 4000000
/-! what slots, values and heaps have to do with each other -/
namespace PL
open PySem PySem.Spec PyProof.Rows L2
abbrev St := L2.St

/-! ### lists of slots -/
theorem gt_nil (i : Nat) : En.gt [] i = .non := rfl
theorem gt_lt {env : En} {i : Nat} (h : i < env.length) : env.gt i = env[i] := by
  unfold En.gt
  rw [List.getD_eq_getElem?_getD, List.getElem?_eq_getElem h]
  rfl
theorem gt_ge {env : En} {i : Nat} (h : env.length ≤ i) : env.gt i = .non := by
  unfold En.gt
  rw [List.getD_eq_getElem?_getD, List.getElem?_eq_none h]
  rfl
theorem gt_set {env : En} {i j : Nat} {s : Slot} : En.gt (env.set i s) j = if i = j ∧ i < env.length then s else env.gt j := by
  unfold En.gt
  rw [List.getD_eq_getElem?_getD, List.getD_eq_getElem?_getD, List.getElem?_set]
  by_cases h : i = j
  · subst h
    by_cases h2 : i < env.length
    · simp [h2]
    · simp [h2]
  · simp [h]
theorem gt_set_ne {env : En} {i j : Nat} {s : Slot} (h : i ≠ j) : En.gt (env.set i s) j = env.gt j := by
  rw [gt_set, if_neg (fun z => h z.1)]
theorem gt_some {env : En} {i : Nat} (h : env.gt i ≠ .non) : i < env.length := by
  by_cases z : i < env.length
  · exact z
  · exact absurd (gt_ge (by omega)) h
theorem gt_set_same {env : En} {i : Nat} {s : Slot} (h : i < env.length) : En.gt (env.set i s) i = s := by
  rw [gt_set, if_pos ⟨rfl, h⟩]

def sg (σ : St) (i : Nat) : Option V := σ.getD i none
theorem sg_some {σ : St} {i : Nat} {u : V} (h : sg σ i = some u) : σ[i]? = some (some u) := by
  unfold sg at h
  rw [List.getD_eq_getElem?_getD] at h
  cases e : σ[i]? with
  | none => rw [e] at h; cases h
  | some o => rw [e] at h; exact congrArg some h
theorem sg_of {σ : St} {i : Nat} {u : V} (h : σ[i]? = some (some u)) : sg σ i = some u := by
  unfold sg
  rw [List.getD_eq_getElem?_getD, h]
  rfl
theorem sg_set {σ : St} {i j : Nat} {o : Option V} : sg (σ.set i o) j = if i = j ∧ i < σ.length then o else sg σ j := by
  unfold sg
  rw [List.getD_eq_getElem?_getD, List.getD_eq_getElem?_getD, List.getElem?_set]
  by_cases h : i = j
  · subst h
    by_cases h2 : i < σ.length
    · simp [h2]
    · simp [h2]
  · simp [h]
theorem sg_set_ne {σ : St} {i j : Nat} {o : Option V} (h : i ≠ j) : sg (σ.set i o) j = sg σ j := by
  rw [sg_set, if_neg (fun z => h z.1)]
theorem sg_set_same {σ : St} {i : Nat} {o : Option V} (h : i < σ.length) : sg (σ.set i o) i = o := by
  rw [sg_set, if_pos ⟨rfl, h⟩]

/-! ### heaps -/
def NTb (o : HO) : Prop := ∀ ps, o ≠ .tbl ps
theorem ntb_lst {xs : List V} : NTb (.lst xs) := fun _ z => by cases z
theorem ntb_tup {xs : List V} : NTb (.tup xs) := fun _ z => by cases z
theorem ntb_frz {o : Obj} {u : HO} : NTb (.frz o u) := fun _ z => by cases z
/-- a tuple is kept with its whole object, which has no dict -/
def TOk : HO → Prop
  | .tup _ => False
  | .frz ob (.tup _) => ob.dict = none
  | _ => True
def TupsOk (Z : Hp) : Prop := ∀ a o, Z a = some o → TOk o
theorem TupsOk.upd {Z : Hp} {p : Addr} {o : HO} (h : TupsOk Z) (t : TOk o) : TupsOk (upd Z p o) := fun a u e => by
  by_cases c : a = p
  · subst c
    rw [upd_same] at e
    cases e
    exact t
  · rw [upd_ne c] at e
    exact h a u e
/-- all but the tables stay -/
structure Ex (H H' : Hp) : Prop where
  kp : ∀ a o, H a = some o → NTb o → H' a = some o
  dm : ∀ a, H a ≠ none → H' a ≠ none
theorem Ex.all {H H' : Hp} (h : ∀ a o, H a = some o → H' a = some o) : Ex H H' := ⟨fun a o e _ => h a o e, fun a e => by
  cases q : H a with
  | none => exact absurd q e
  | some o => rw [h a o q]; simp⟩
theorem Ex.refl (H : Hp) : Ex H H := .all fun _ _ h => h
theorem Ex.trans {H H1 H2 : Hp} (a : Ex H H1) (b : Ex H1 H2) : Ex H H2 := ⟨fun x o h n => b.kp x o (a.kp x o h n) n, fun x h => b.dm x (a.dm x h)⟩
theorem Ex.new' {H : Hp} {p : Addr} {o : HO} (h : H p = none) : ∀ a u, H a = some u → upd H p o a = some u := fun a u e => by
  rw [upd_ne (ne_of_none e h)]
  exact e
theorem Ex.new {H : Hp} {p : Addr} {o : HO} (h : H p = none) : Ex H (upd H p o) := .all (Ex.new' h)
theorem Ex.free {H H' : Hp} {p : Addr} (e : Ex H H') (h : H' p = none) : H p = none := by
  cases h1 : H p with
  | none => rfl
  | some o => exact absurd h (e.dm p (by rw [h1]; simp))
theorem Ex.put {Z H : Hp} {p : Addr} {o : HO} (e : Ex Z H) (h : H p = some o) : Ex (upd Z p o) H := ⟨fun b u q n => by
    by_cases hb : b = p
    · subst hb
      rw [upd_same] at q
      cases q
      exact h
    · rw [upd_ne hb] at q
      exact e.kp b u q n, fun b q => by
    by_cases hb : b = p
    · subst hb
      rw [h]; simp
    · rw [upd_ne hb] at q
      exact e.dm b q⟩
theorem Ex.set {Z H : Hp} {p : Addr} {o : HO} (e : Ex Z H) (z : Z p = none) : Ex Z (upd H p o) := ⟨fun b u q n => by
    rw [upd_ne (ne_of_none q z)]
    exact e.kp b u q n, fun b q => by
    by_cases hb : b = p
    · subst hb
      rw [upd_same]; simp
    · rw [upd_ne hb]
      exact e.dm b q⟩
theorem ex_l {K : PySem.W.Frag} {H H' : Hp} {a : Addr} {xs : List V} (e : Ex H H') (h : SqL K H a xs) : SqL K H' a xs := by
  rcases h with (h | ⟨o, h⟩) | h
  · exact .inl (.inl (e.kp _ _ h (fun _ z => by cases z)))
  · exact .inl (.inr ⟨o, e.kp _ _ h (fun _ z => by cases z)⟩)
  · exact .inr h
theorem ex_t {K : PySem.W.Frag} {H H' : Hp} {a : Addr} {xs : List V} (e : Ex H H') (h : SqT K H a xs) : SqT K H' a xs := by
  rcases h with (h | ⟨o, h⟩) | h
  · exact .inl (.inl (e.kp _ _ h (fun _ z => by cases z)))
  · exact .inl (.inr ⟨o, e.kp _ _ h (fun _ z => by cases z)⟩)
  · exact .inr h
mutual
theorem dp_mono {K : PySem.W.Frag} {H H' : Hp} (e : Ex H H') : ∀ (d : PyData) {v : V}, Dp K H v d → Dp K H' v d
  | .none, _, h => by cases h; exact .non
  | .bool _, _, h => by cases h; exact .bl _
  | .int _, _, h => by cases h; exact .int _
  | .str _, _, h => by cases h; exact .str _
  | .list ds, _, h => by
    cases h with
    | lst h1 h2 => exact .lst (ex_l e h1) (dpa_mono e ds h2)
  | .tuple ds, _, h => by
    cases h with
    | tup h1 h2 => exact .tup (ex_t e h1) (dpa_mono e ds h2)
  | .dict _, _, h => by cases h
theorem dpa_mono {K : PySem.W.Frag} {H H' : Hp} (e : Ex H H') : ∀ (ds : List PyData) {vs : List V}, DpAll K H vs ds → DpAll K H' vs ds
  | [], _, h => by cases h; exact .nil
  | d :: ds, _, h => by
    cases h with
    | cons h1 h2 => exact .cons (dp_mono e d h1) (dpa_mono e ds h2)
end
mutual
theorem dp_plain {K : PySem.W.Frag} {H : Hp} : ∀ (d : PyData) {v : V}, Dp K H v d → d.plain = true
  | .none, _, _ => rfl
  | .bool _, _, _ => rfl
  | .int _, _, _ => rfl
  | .str _, _, _ => rfl
  | .list ds, _, h => by
    cases h with
    | lst h1 h2 => exact dpa_plain ds h2
  | .tuple ds, _, h => by
    cases h with
    | tup h1 h2 => exact dpa_plain ds h2
  | .dict _, _, h => by cases h
theorem dpa_plain {K : PySem.W.Frag} {H : Hp} : ∀ (ds : List PyData) {vs : List V}, DpAll K H vs ds → PyData.plainAll ds = true
  | [], _, _ => rfl
  | d :: ds, _, h => by
    cases h with
    | cons h1 h2 =>
      rw [PyData.plainAll, dp_plain d h1, dpa_plain ds h2]
      rfl
end
section
variable {K : PySem.W.Frag} {H : Hp} {vs ws : List V} {ds es : List PyData}
theorem dpa_len : ∀ {vs : List V} {ds : List PyData}, DpAll K H vs ds → vs.length = ds.length
  | _, _, .nil => rfl
  | _, _, .cons _ h => congrArg (· + 1) (dpa_len h)
theorem dpa_at : ∀ {vs : List V} {ds : List PyData} (i : Nat) {d : PyData}, DpAll K H vs ds → ds[i]? = some d → ∃ v, vs[i]? = some v ∧ Dp K H v d
  | _, _, _, _, .nil, e => by simp at e
  | _, _, 0, _, .cons h1 _, e => by
    simp at e
    subst e
    exact ⟨_, rfl, h1⟩
  | _, _, i + 1, _, .cons _ h2, e => by
    obtain ⟨v, e1, e2⟩ := dpa_at i h2 (by simpa using e)
    exact ⟨v, by simpa using e1, e2⟩
theorem dpa_atV : ∀ {vs : List V} {ds : List PyData} (i : Nat) {v : V}, DpAll K H vs ds → vs[i]? = some v → ∃ d, ds[i]? = some d ∧ Dp K H v d
  | _, _, _, _, .nil, e => by simp at e
  | _, _, 0, _, .cons h1 _, e => by
    simp at e
    subst e
    exact ⟨_, rfl, h1⟩
  | _, _, i + 1, _, .cons _ h2, e => by
    obtain ⟨v, e1, e2⟩ := dpa_atV i h2 (by simpa using e)
    exact ⟨v, by simpa using e1, e2⟩
theorem dpa_app : ∀ {vs ws : List V} {ds es : List PyData}, DpAll K H vs ds → DpAll K H ws es → DpAll K H (vs ++ ws) (ds ++ es)
  | _, _, _, _, .nil, h => h
  | _, _, _, _, .cons h1 h2, h => .cons h1 (dpa_app h2 h)
theorem dpa_set {v : V} {d : PyData} (h1 : Dp K H v d) : ∀ {vs : List V} {ds : List PyData} (i : Nat), DpAll K H vs ds → DpAll K H (vs.set i v) (ds.set i d)
  | _, _, _, .nil => .nil
  | _, _, 0, .cons _ h => .cons h1 h
  | _, _, i + 1, .cons h2 h => .cons h2 (dpa_set h1 i h)
theorem dpa_take : ∀ {vs : List V} {ds : List PyData} (i : Nat), DpAll K H vs ds → DpAll K H (vs.take i) (ds.take i)
  | _, _, 0, _ => .nil
  | _, _, _ + 1, .nil => .nil
  | _, _, i + 1, .cons h1 h => .cons h1 (dpa_take i h)
theorem dpa_drop : ∀ {vs : List V} {ds : List PyData} (i : Nat), DpAll K H vs ds → DpAll K H (vs.drop i) (ds.drop i)
  | _, _, 0, h => h
  | _, _, _ + 1, .nil => .nil
  | _, _, i + 1, .cons h1 h => dpa_drop i h
theorem dpa_erase : ∀ {vs : List V} {ds : List PyData} (i : Nat), DpAll K H vs ds → DpAll K H (vs.eraseIdx i) (ds.eraseIdx i)
  | _, _, _, .nil => .nil
  | _, _, 0, .cons _ h => h
  | _, _, i + 1, .cons h1 h => .cons h1 (dpa_erase i h)
theorem dpa_rev (h : DpAll K H vs ds) : DpAll K H vs.reverse ds.reverse := by
  induction h using DpAll.rec (motive_1 := fun _ _ _ => True) with
  | non => trivial
  | bl => trivial
  | int => trivial
  | str => trivial
  | lst => trivial
  | tup => trivial
  | nil => exact .nil
  | cons h1 h2 _ ih =>
    rw [List.reverse_cons, List.reverse_cons]
    exact dpa_app ih (.cons h1 .nil)
theorem dpa_rep (h : DpAll K H vs ds) : ∀ k : Nat, DpAll K H (List.replicate k vs).flatten (List.replicate k ds).flatten
  | 0 => .nil
  | k + 1 => by
    rw [List.replicate_succ, List.replicate_succ, List.flatten_cons, List.flatten_cons]
    exact dpa_app h (dpa_rep h k)
theorem dpa_ints : ∀ {vs : List V} {ds : List PyData} {ns : List Int}, DpAll K H vs ds → intsOf ds = some ns → vs = ns.map V.int ∧ ds = ns.map PyData.int
  | _, [], ns, .nil, e => by
    unfold intsOf at e
    cases e
    exact ⟨rfl, rfl⟩
  | _, d :: ds, ns, .cons h1 h2, e => by
    cases d with
    | int i =>
      unfold intsOf at e
      cases q : intsOf ds with
      | none => rw [q] at e; cases e
      | some ms =>
        rw [q] at e
        cases e
        obtain ⟨e1, e2⟩ := dpa_ints h2 q
        cases h1
        rw [e1, e2]
        exact ⟨rfl, rfl⟩
    | _ => unfold intsOf at e; cases e
theorem dpa_bools : ∀ {vs : List V} {ds : List PyData} {ns : List Bool}, DpAll K H vs ds → boolsOf ds = some ns → vs = ns.map V.bl ∧ ds = ns.map PyData.bool
  | _, [], ns, .nil, e => by
    unfold boolsOf at e
    cases e
    exact ⟨rfl, rfl⟩
  | _, d :: ds, ns, .cons h1 h2, e => by
    cases d with
    | bool i =>
      unfold boolsOf at e
      cases q : boolsOf ds with
      | none => rw [q] at e; cases e
      | some ms =>
        rw [q] at e
        cases e
        obtain ⟨e1, e2⟩ := dpa_bools h2 q
        cases h1
        rw [e1, e2]
        exact ⟨rfl, rfl⟩
    | _ => unfold boolsOf at e; cases e
theorem dpa_int_list : ∀ (ns : List Int), DpAll K H (ns.map V.int) (ns.map PyData.int)
  | [] => .nil
  | _ :: ns => .cons (.int _) (dpa_int_list ns)
end

/-! ### what is read of an operand -/
def Sh (K : PySem.W.Frag) (Z H : Hp) : V → PyData → Prop
  | u, .list ds => ∃ a us, u = .ref a ∧ SqL K H a us ∧ DpAll K Z us ds
  | u, d => Dp K Z u d
theorem Sh.of {K : PySem.W.Frag} {Z H : Hp} (e : Ex Z H) : ∀ {d : PyData} {u : V}, Dp K Z u d → Sh K Z H u d
  | .list _, _, h => by
    cases h with
    | lst h1 h2 => exact ⟨_, _, rfl, ex_l e h1, h2⟩
  | .tuple _, _, h => h
  | .none, _, h => h
  | .bool _, _, h => h
  | .int _, _, h => h
  | .str _, _, h => h
  | .dict _, _, h => h
theorem Sh.tup {K : PySem.W.Frag} {Z H : Hp} (e : Ex Z H) {ds : List PyData} {u : V} (h : Sh K Z H u (.tuple ds)) : ∃ a us, u = .ref a ∧ SqT K H a us ∧ DpAll K Z us ds := by
  have h' : Dp K Z u (.tuple ds) := h
  cases h' with
  | tup h1 h2 => exact ⟨_, _, rfl, ex_t e h1, h2⟩
/-- the whole, read at H -/
theorem Sh.dp {K : PySem.W.Frag} {Z H : Hp} (e : Ex Z H) : ∀ {d : PyData} {u : V}, Sh K Z H u d → Dp K H u d
  | .list _, _, ⟨_, _, rfl, h1, h2⟩ => .lst h1 (dpa_mono e _ h2)
  | .tuple _, _, h => dp_mono e _ h
  | .none, _, h => dp_mono e _ h
  | .bool _, _, h => dp_mono e _ h
  | .int _, _, h => dp_mono e _ h
  | .str _, _, h => dp_mono e _ h
  | .dict _, _, h => dp_mono e _ h

/-! ### slots and the heap -/
def isOwn : Slot → Bool
  | .own _ => true
  | _ => false
def isIo : Slot → Bool
  | .io _ => true
  | _ => false
def isLk : Slot → Bool
  | .lk _ => true
  | _ => false
def isL (s : Slot) : Bool := isOwn s || isIo s || isLk s
def LAt (K : PySem.W.Frag) (Z H : Hp) (o : Option V) (xs : List PyData) : Prop := ∃ a us, o = some (.ref a) ∧ H a = some (.lst us) ∧ Z a = none ∧ DpAll K Z us xs
def SlotOk (K : PySem.W.Frag) (Z H : Hp) : Slot → Option V → Prop
  | .non, _ => True
  | .val d, o => ∃ u, o = some u ∧ Dp K Z u d
  | .own xs, o => LAt K Z H o xs
  | .io xs, o => LAt K Z H o xs
  | .lk xs, o => LAt K Z H o xs
theorem SlotOk.lat {K : PySem.W.Frag} {Z H : Hp} {s : Slot} {o : Option V} (h : SlotOk K Z H s o) (l : isL s = true) : ∃ xs, LAt K Z H o xs := by
  cases s with
  | non => cases l
  | val d => cases l
  | own xs => exact ⟨xs, h⟩
  | io xs => exact ⟨xs, h⟩
  | lk xs => exact ⟨xs, h⟩
def OwnAt (env : En) (σ : St) (b : Addr) : Prop := ∃ i, isOwn (env.gt i) = true ∧ sg σ i = some (.ref b)
def IoAt (env : En) (σ : St) (b : Addr) : Prop := ∃ i, isIo (env.gt i) = true ∧ sg σ i = some (.ref b)
def LsAt (env : En) (σ : St) (b : Addr) : Prop := ∃ i, isL (env.gt i) = true ∧ sg σ i = some (.ref b)
theorem OwnAt.ls {env : En} {σ : St} {b : Addr} : OwnAt env σ b → LsAt env σ b := fun ⟨i, h, e⟩ => ⟨i, by unfold isL; rw [h]; rfl, e⟩
theorem IoAt.ls {env : En} {σ : St} {b : Addr} : IoAt env σ b → LsAt env σ b := fun ⟨i, h, e⟩ => ⟨i, by unfold isL; rw [h]; simp, e⟩

abbrev Tb := List (Addr × Str)
structure RE (K : PySem.W.Frag) (T : Tb) (Z H : Hp) (env : En) (σ : St) : Prop where
  len : env.length = σ.length
  sl : ∀ i, SlotOk K Z H (env.gt i) (sg σ i)
  ap : ∀ i j a, isL (env.gt i) = true → isL (env.gt j) = true → sg σ i = some (.ref a) → sg σ j = some (.ref a) → i = j
  ex : Ex Z H
  tb : LamX.Tabs T H
  pt : TupsOk Z
structure Mv (Ow Io : Addr → Prop) (Z H Z' H' : Hp) : Prop where
  ez : Ex Z Z'
  kp : ∀ b o, H b = some o → ¬ Ow b → ¬ Io b → NTb o → H' b = some o
  dm : ∀ b, H b ≠ none → H' b ≠ none
  gr : ∀ b, Z' b ≠ none → Z b ≠ none ∨ H b = none ∨ Ow b
theorem Mv.refl {Ow Io : Addr → Prop} {Z H : Hp} : Mv Ow Io Z H Z H := ⟨Ex.refl _, fun _ _ h _ _ _ => h, fun _ h => h, fun _ h => .inl h⟩
theorem Mv.trans {Ow Io Ow1 Io1 : Addr → Prop} {Z H Z1 H1 Z2 H2 : Hp} (a : Mv Ow Io Z H Z1 H1) (b : Mv Ow1 Io1 Z1 H1 Z2 H2) (o : ∀ b, Ow1 b → Ow b) (i : ∀ b, Io1 b → Io b) : Mv Ow Io Z H Z2 H2 where
  ez := a.ez.trans b.ez
  kp := fun c u h n1 n2 n3 => b.kp c u (a.kp c u h n1 n2 n3) (fun z => n1 (o c z)) (fun z => n2 (i c z)) n3
  dm := fun c h => b.dm c (a.dm c h)
  gr := fun c h => by
    rcases b.gr c h with z | z | z
    · exact a.gr c z
    · refine .inr (.inl ?_)
      cases q : H c with
      | none => rfl
      | some u => exact absurd z (a.dm c (by rw [q]; simp))
    · exact .inr (.inr (o c z))
theorem Mv.mono {Ow Io Ow1 Io1 : Addr → Prop} {Z H Z1 H1 : Hp} (a : Mv Ow1 Io1 Z H Z1 H1) (o : ∀ b, Ow1 b → Ow b) (i : ∀ b, Io1 b → Io b) : Mv Ow Io Z H Z1 H1 :=
  Mv.trans Mv.refl a o i
/-- a new object that is not known as a value -/
theorem Mv.new {Ow Io : Addr → Prop} {Z H : Hp} {p : Addr} {o : HO} (h : H p = none) : Mv Ow Io Z H Z (upd H p o) where
  ez := Ex.refl _
  kp := fun b u e _ _ _ => Ex.new' h b u e
  dm := fun b e => by
    cases q : H b with
    | none => exact absurd q e
    | some u => rw [Ex.new' h b u q]; simp
  gr := fun _ h => .inl h
/-- what may be read of a slot -/
structure Stp (K : PySem.W.Frag) (T : Tb) (σ : St) (Z H : Hp) (env : En) (Z' H' : Hp) (env' : En) : Prop where
  re : RE K T Z' H' env' σ
  mv : Mv (OwnAt env σ) (IoAt env σ) Z H Z' H'
  ow : ∀ i, isOwn (env'.gt i) = true → isOwn (env.gt i) = true
  io : ∀ i, isIo (env'.gt i) = isIo (env.gt i)
  lk : ∀ i, isLk (env'.gt i) = isLk (env.gt i)
section
variable {K : PySem.W.Frag} {T : Tb} {σ : St} {Z H Z1 H1 Z2 H2 Z' H' : Hp} {env env1 env2 env' : En}
theorem RE.ndom (r : RE K T Z H env σ) {b : Addr} (h : LsAt env σ b) : ∃ us, H b = some (.lst us) ∧ Z b = none := by
  obtain ⟨i, l, e⟩ := h
  obtain ⟨xs, a, us, e1, e2, e3, _⟩ := (r.sl i).lat l
  rw [e] at e1
  cases e1
  exact ⟨us, e2, e3⟩
theorem Stp.refl (r : RE K T Z H env σ) : Stp K T σ Z H env Z H env := ⟨r, Mv.refl, fun _ h => h, fun _ => rfl, fun _ => rfl⟩
theorem Stp.owAt (s : Stp K T σ Z H env Z1 H1 env1) {b : Addr} : OwnAt env1 σ b → OwnAt env σ b := fun ⟨i, h, e⟩ => ⟨i, s.ow i h, e⟩
theorem Stp.ioAt (s : Stp K T σ Z H env Z1 H1 env1) {b : Addr} : IoAt env1 σ b → IoAt env σ b := fun ⟨i, h, e⟩ => ⟨i, by rw [← s.io i]; exact h, e⟩
theorem Stp.lsAt (s : Stp K T σ Z H env Z1 H1 env1) {b : Addr} : LsAt env1 σ b → LsAt env σ b := fun ⟨i, h, e⟩ => ⟨i, by
  unfold isL at h ⊢
  rw [← s.io i, ← s.lk i]
  simp only [Bool.or_eq_true] at h ⊢
  rcases h with (h | h) | h
  · exact .inl (.inl (s.ow i h))
  · exact .inl (.inr h)
  · exact .inr h, e⟩
theorem Stp.trans (a : Stp K T σ Z H env Z1 H1 env1) (b : Stp K T σ Z1 H1 env1 Z2 H2 env2) : Stp K T σ Z H env Z2 H2 env2 where
  re := b.re
  mv := a.mv.trans b.mv (fun _ => a.owAt) (fun _ => a.ioAt)
  ow := fun i h => a.ow i (b.ow i h)
  io := fun i => (b.io i).trans (a.io i)
  lk := fun i => (b.lk i).trans (a.lk i)
/-- what is given: a value, or a new list -/
def Got (K : PySem.W.Frag) (H Z' H' : Hp) : RV → V → Prop
  | .v d, u => Dp K Z' u d
  | .l xs, u => ∃ p us, u = .ref p ∧ H p = none ∧ H' p = some (.lst us) ∧ Z' p = none ∧ DpAll K Z' us xs
theorem Slot.mono (s : Slot) {o : Option V} (e : Ex Z Z') (hl : ∀ a us, o = some (.ref a) → isL s = true → H a = some (.lst us) → H' a = some (.lst us) ∧ Z' a = none) (h : SlotOk K Z H s o) : SlotOk K Z' H' s o := by
  cases s with
  | non => trivial
  | val d =>
    obtain ⟨u, e1, e2⟩ := h
    exact ⟨u, e1, dp_mono e _ e2⟩
  | own xs =>
    obtain ⟨a, us, e1, e2, e3, e4⟩ := h
    obtain ⟨f1, f2⟩ := hl a us e1 rfl e2
    exact ⟨a, us, e1, f1, f2, dpa_mono e _ e4⟩
  | io xs =>
    obtain ⟨a, us, e1, e2, e3, e4⟩ := h
    obtain ⟨f1, f2⟩ := hl a us e1 rfl e2
    exact ⟨a, us, e1, f1, f2, dpa_mono e _ e4⟩
  | lk xs =>
    obtain ⟨a, us, e1, e2, e3, e4⟩ := h
    obtain ⟨f1, f2⟩ := hl a us e1 rfl e2
    exact ⟨a, us, e1, f1, f2, dpa_mono e _ e4⟩
theorem RE.mono (r : RE K T Z H env σ) (ez : Ex Z Z') (eh : Ex Z' H') (tb : LamX.Tabs T H') (hl : ∀ i a us, isL (env.gt i) = true → sg σ i = some (.ref a) → H a = some (.lst us) → H' a = some (.lst us) ∧ Z' a = none) (pz : TupsOk Z') : RE K T Z' H' env σ :=
  ⟨r.len, fun i => Slot.mono _ ez (fun a us e1 e2 e3 => hl i a us e2 e1 e3) (r.sl i), r.ap, eh, tb, pz⟩
theorem Stp.mk0 (re : RE K T Z' H' env σ) (mv : Mv (OwnAt env σ) (IoAt env σ) Z H Z' H') : Stp K T σ Z H env Z' H' env := ⟨re, mv, fun _ h => h, fun _ => rfl, fun _ => rfl⟩
/-- a new object, untracked as a value -/
theorem Stp.new (r : RE K T Z H env σ) {p : Addr} {o : HO} (h : H p = none) : Stp K T σ Z H env Z (upd H p o) env := by
  refine Stp.mk0 (r.mono (Ex.refl _) (r.ex.trans (Ex.new h)) (LamX.Tabs.ext r.tb (Ex.new' h)) (fun i a us l e q => ⟨Ex.new' h _ _ q, ?_⟩) r.pt) (Mv.new h)
  obtain ⟨us', _, z⟩ := r.ndom ⟨i, l, e⟩
  exact z
theorem zget {Z H : Hp} (e : Ex Z H) {p : Addr} (h : H p = none) : Z p = none := e.free h
/-- a list that no slot holds becomes a value -/
theorem Stp.keep (r : RE K T Z H env σ) {p : Addr} {o : HO} (h : H p = some o) (z : Z p = none) (hn : NTb o) (nl : ¬ LsAt env σ p) (ht : TOk o) : RE K T (upd Z p o) H env σ := by
  refine r.mono (Ex.new z) (r.ex.put h) r.tb (fun i a us l e q => ⟨q, ?_⟩) (r.pt.upd ht)
  · have ne : a ≠ p := fun c => nl ⟨i, l, c ▸ e⟩
    rw [upd_ne ne]
    obtain ⟨_, _, z⟩ := r.ndom ⟨i, l, e⟩
    exact z
/-- a new value -/
theorem Stp.newZ (r : RE K T Z H env σ) {p : Addr} {o : HO} (h : H p = none) (hn : NTb o) (ht : TOk o) : Stp K T σ Z H env (upd Z p o) (upd H p o) env := by
  have r1 := Stp.new (o := o) r h
  have zp := zget r.ex h
  have nl : ¬ LsAt env σ p := fun z => by
    obtain ⟨us, q, _⟩ := r.ndom z
    rw [h] at q
    cases q
  refine Stp.mk0 (Stp.keep r1.re upd_same zp hn nl ht) ⟨Ex.new zp, fun b u e _ _ _ => Ex.new' h b u e, r1.mv.dm, fun b e => ?_⟩
  by_cases hb : b = p
  · exact .inr (.inl (hb ▸ h))
  · rw [upd_ne hb] at e
    exact .inl e
/-- from a new list to a value -/
theorem Stp.toV (s : Stp K T σ Z H env Z1 H1 env1) (r0 : RE K T Z H env σ) {r : RV} {u : V} (g : Got K H Z1 H1 r u) : ∃ Z2, Stp K T σ Z H env Z2 H1 env1 ∧ Dp K Z2 u r.d := by
  cases r with
  | v d => exact ⟨Z1, s, g⟩
  | l xs =>
    obtain ⟨p, us, rfl, h0, h1, z1, da⟩ := g
    have nl : ¬ LsAt env1 σ p := fun z => by
      obtain ⟨us, q, _⟩ := r0.ndom (s.lsAt z)
      rw [h0] at q
      cases q
    refine ⟨upd Z1 p (.lst us), ⟨Stp.keep s.re h1 z1 ntb_lst nl trivial, ⟨s.mv.ez.trans (Ex.new z1), s.mv.kp, s.mv.dm, fun b e => ?_⟩, s.ow, s.io, s.lk⟩, .lst (.inl (.inl upd_same)) (dpa_mono (Ex.new z1) _ da)⟩
    by_cases hb : b = p
    · exact .inr (.inl (hb ▸ h0))
    · rw [upd_ne hb] at e
      exact s.mv.gr b e
theorem Got.later (s : Stp K T σ Z1 H1 env1 Z2 H2 env2) (r0 : RE K T Z H env σ) (s0 : Stp K T σ Z H env Z1 H1 env1) {r : RV} {u : V} (g : Got K H Z1 H1 r u) : Got K H Z2 H2 r u := by
  cases r with
  | v d => exact dp_mono s.mv.ez _ g
  | l xs =>
    obtain ⟨p, us, rfl, h0, h1, z1, da⟩ := g
    have nl : ¬ LsAt env1 σ p := fun z => by
      obtain ⟨us, q, _⟩ := r0.ndom (s0.lsAt z)
      rw [h0] at q
      cases q
    refine ⟨p, us, rfl, h0, s.mv.kp p _ h1 (fun z => nl z.ls) (fun z => nl z.ls) ntb_lst, ?_, dpa_mono s.mv.ez _ da⟩
    cases q : Z2 p with
    | none => rfl
    | some o =>
      rcases s.mv.gr p (by rw [q]; simp) with z | z | z
      · exact absurd z1 z
      · rw [h1] at z; cases z
      · exact absurd z.ls nl
/-! ### slots are changed -/
theorem isL_cases {s : Slot} (h : isL s = true) : isOwn s = true ∨ isIo s = true ∨ isLk s = true := by
  unfold isL at h
  simp only [Bool.or_eq_true] at h
  rcases h with (h | h) | h
  · exact .inl h
  · exact .inr (.inl h)
  · exact .inr (.inr h)
theorem rdM_some {i : Nat} {xs : List PyData} (h : rdM i env = some xs) : (env.gt i = .own xs ∨ env.gt i = .io xs) ∧ i < env.length := by
  unfold rdM at h
  split at h
  · rename_i q
    cases h
    exact ⟨.inl q, gt_some (by rw [q]; simp)⟩
  · rename_i q
    cases h
    exact ⟨.inr q, gt_some (by rw [q]; simp)⟩
  · cases h
theorem rdB_set_ne {i j : Nat} {s : Slot} (h : j ≠ i) : rdB j (env.set i s) = rdB j env := by
  unfold rdB
  rw [gt_set_ne (fun z => h z.symm)]
/-- the list of slot i is changed -/
theorem Stp.wrM (r : RE K T Z H env σ) {i : Nat} {xs ys : List PyData} {a : Addr} {us ws : List V} (h : rdM i env = some xs) (e : sg σ i = some (.ref a)) (hw : DpAll K Z ws ys) : Stp K T σ Z H env Z (upd H a (.lst ws)) (wrM i ys env) := by
  obtain ⟨hs, hi⟩ := rdM_some h
  have lI : isL (env.gt i) = true := by rcases hs with q | q <;> rw [q] <;> rfl
  obtain ⟨us, ha, hz⟩ := r.ndom ⟨i, lI, e⟩
  have g : ∀ j, (PL.wrM i ys env).gt j = if j = i then keepK (env.gt i) ys else env.gt j := fun j => by
    unfold PL.wrM
    by_cases c : j = i
    · subst c; rw [gt_set_same hi, if_pos rfl]
    · rw [gt_set_ne (fun z => c z.symm), if_neg c]
  have k : isOwn (keepK (env.gt i) ys) = isOwn (env.gt i) ∧ isIo (keepK (env.gt i) ys) = isIo (env.gt i) ∧ isLk (keepK (env.gt i) ys) = isLk (env.gt i) := by
    rcases hs with q | q <;> rw [q] <;> exact ⟨rfl, rfl, rfl⟩
  have kl : ∀ j, isL ((PL.wrM i ys env).gt j) = isL (env.gt j) := fun j => by
    rw [g]
    by_cases c : j = i
    · subst c; rw [if_pos rfl]; unfold isL; rw [k.1, k.2.1, k.2.2]
    · rw [if_neg c]
  have exz : Ex Z (upd H a (.lst ws)) := r.ex.set hz
  have own : OwnAt env σ a ∨ IoAt env σ a := by
    rcases hs with q | q
    · exact .inl ⟨i, by rw [q]; rfl, e⟩
    · exact .inr ⟨i, by rw [q]; rfl, e⟩
  refine ⟨⟨?_, fun j => ?_, fun j l b h1 h2 => ?_, exz, fun p hp => ?_, r.pt⟩, ⟨Ex.refl _, fun b o q n1 n2 _ => ?_, fun b q => ?_, fun b q => .inl q⟩, fun j q => ?_, fun j => ?_, fun j => ?_⟩
  · unfold PL.wrM
    rw [List.length_set]
    exact r.len
  · by_cases c : j = i
    · subst c
      rw [g, if_pos rfl]
      rcases hs with q | q <;> rw [q] <;> exact ⟨a, ws, e, upd_same, hz, hw⟩
    · rw [g, if_neg c]
      refine Slot.mono _ (Ex.refl _) (fun b us e1 l e2 => ?_) (r.sl j)
      have ne : b ≠ a := fun z => c (r.ap j i a l lI (z ▸ e1) e)
      exact ⟨by rw [upd_ne ne]; exact e2, (r.ndom ⟨j, l, e1⟩).elim fun _ q => q.2⟩
  · rw [kl] at h1 h2
    exact r.ap j l b h1 h2
  · obtain ⟨ps, t1, t2, t3⟩ := r.tb p hp
    have nt : ∀ b o, H b = some o → (∀ xs, o ≠ .lst xs) → upd H a (.lst ws) b = some o := fun b o q n => by
      have ne : b ≠ a := fun c => by rw [c, ha] at q; cases q; exact n _ rfl
      rw [upd_ne ne]
      exact q
    refine ⟨ps, nt _ _ t1 (fun _ z => by cases z), t2, fun pos cv hc => ?_⟩
    obtain ⟨c, c1, c2⟩ := t3 pos cv hc
    exact ⟨c, c1, nt _ _ c2 fun xs z => by unfold LamX.CodeO at z; cases z⟩
  · have ne : b ≠ a := fun c => by
      rcases own with z | z
      · exact n1 (c ▸ z)
      · exact n2 (c ▸ z)
    rw [upd_ne ne]
    exact q
  · by_cases c : b = a
    · rw [c, upd_same]; simp
    · rw [upd_ne c]; exact q
  · rw [g] at q
    by_cases c : j = i
    · subst c; rw [if_pos rfl, k.1] at q; exact q
    · rw [if_neg c] at q; exact q
  · rw [g]
    by_cases c : j = i
    · subst c; rw [if_pos rfl, k.2.1]
    · rw [if_neg c]
  · rw [g]
    by_cases c : j = i
    · subst c; rw [if_pos rfl, k.2.2]
    · rw [if_neg c]
theorem LAt.addr {o : Option V} {xs : List PyData} (h : LAt K Z H o xs) : ∃ a us, o = some (.ref a) ∧ H a = some (.lst us) ∧ Z a = none ∧ DpAll K Z us xs := h
theorem RE.mAt (r : RE K T Z H env σ) {i : Nat} {xs : List PyData} (h : rdM i env = some xs) : ∃ a us, sg σ i = some (.ref a) ∧ H a = some (.lst us) ∧ DpAll K Z us xs := by
  obtain ⟨hs, hi⟩ := rdM_some h
  have q := r.sl i
  rcases hs with z | z <;> rw [z] at q <;> exact q.elim fun a ⟨us, e1, e2, _, e4⟩ => ⟨a, us, e1, e2, e4⟩
/-- a name read as a value -/
theorem Stp.rdV (r : RE K T Z H env σ) {i : Nat} {d : RV} {env1 : En} (h : rdV i env = .ok d env1) : ∃ u Z1, sg σ i = some u ∧ Stp K T σ Z H env Z1 H env1 ∧ Dp K Z1 u d.d := by
  unfold PL.rdV at h
  have q := r.sl i
  split at h
  · rename_i x z
    cases h
    rw [z] at q
    obtain ⟨u, e1, e2⟩ := q
    exact ⟨u, Z, e1, Stp.refl r, e2⟩
  · rename_i xs z
    cases h
    rw [z] at q
    obtain ⟨a, us, e1, e2, e3, e4⟩ := q
    have hi : i < env.length := gt_some (by rw [z]; simp)
    have lI : isL (env.gt i) = true := by rw [z]; rfl
    have g : ∀ j, En.gt (env.set i (.val (.list xs))) j = if j = i then .val (.list xs) else env.gt j := fun j => by
      by_cases c : j = i
      · subst c; rw [gt_set_same hi, if_pos rfl]
      · rw [gt_set_ne (fun z => c z.symm), if_neg c]
    have eh : Ex (upd Z a (.lst us)) H := r.ex.put e2
    refine ⟨.ref a, upd Z a (.lst us), e1, ⟨⟨?_, fun j => ?_, fun j l b h1 h2 => ?_, eh, r.tb, r.pt.upd trivial⟩, ⟨Ex.new e3, fun b u e _ _ _ => e, fun b e => e, fun b e => ?_⟩, fun j q => ?_, fun j => ?_, fun j => ?_⟩, .lst (.inl (.inl upd_same)) (dpa_mono (Ex.new e3) _ e4)⟩
    · rw [List.length_set]
      exact r.len
    · rw [g]
      by_cases c : j = i
      · subst c
        rw [if_pos rfl]
        exact ⟨.ref a, e1, .lst (.inl (.inl upd_same)) (dpa_mono (Ex.new e3) _ e4)⟩
      · rw [if_neg c]
        refine Slot.mono _ (Ex.new e3) (fun b us e5 l e6 => ⟨e6, ?_⟩) (r.sl j)
        have ne : b ≠ a := fun z => c (r.ap j i a l lI (z ▸ e5) e1)
        rw [upd_ne ne]
        exact (r.ndom ⟨j, l, e5⟩).elim fun _ q => q.2
    · rw [g] at h1 h2
      by_cases c : j = i
      · rw [if_pos c] at h1; cases h1
      · by_cases c2 : l = i
        · rw [if_pos c2] at h2; cases h2
        · rw [if_neg c] at h1
          rw [if_neg c2] at h2
          exact r.ap j l b h1 h2
    · by_cases hb : b = a
      · exact .inr (.inr ⟨i, by rw [z]; rfl, hb ▸ e1⟩)
      · rw [upd_ne hb] at e
        exact .inl e
    · rw [g] at q
      by_cases c : j = i
      · rw [if_pos c] at q; cases q
      · rw [if_neg c] at q; exact q
    · rw [g]
      by_cases c : j = i
      · subst c; rw [if_pos rfl, z]; rfl
      · rw [if_neg c]
    · rw [g]
      by_cases c : j = i
      · subst c; rw [if_pos rfl, z]; rfl
      · rw [if_neg c]
  · cases h
/-- a name that is looked at -/
theorem RE.rdB (r : RE K T Z H env σ) {i : Nat} {d : PyData} (h : rdB i env = some d) : ∃ u, sg σ i = some u ∧ Sh K Z H u d := by
  unfold PL.rdB at h
  have q := r.sl i
  split at h
  · rename_i x z
    cases h
    rw [z] at q
    obtain ⟨u, e1, e2⟩ := q
    exact ⟨u, e1, Sh.of r.ex e2⟩
  · rename_i x z
    cases h
    rw [z] at q
    obtain ⟨a, us, e1, e2, e3, e4⟩ := q
    exact ⟨.ref a, e1, a, us, rfl, .inl (.inl e2), e4⟩
  · rename_i x z
    cases h
    rw [z] at q
    obtain ⟨a, us, e1, e2, e3, e4⟩ := q
    exact ⟨.ref a, e1, a, us, rfl, .inl (.inl e2), e4⟩
  · rename_i x z
    cases h
    rw [z] at q
    obtain ⟨a, us, e1, e2, e3, e4⟩ := q
    exact ⟨.ref a, e1, a, us, rfl, .inl (.inl e2), e4⟩
  · cases h
end
end PL

/-! part PLOps -/
set_option Elab.async false
set_option linter.all false
set_option autoImplicit false
set_option maxRecDepth 100000
set_option maxHeartbeats 4000000
/-! the operations, one by one -/
namespace PL
open PySem PySem.Spec PyProof.Rows L2

/-- the object of a new tuple -/
def tobj (its : List Value) : Obj := { cls := .type "tuple", data := .seq its.toArray }
/-- what is to be shown of what follows, for a given result -/
def OpPost (K : PySem.W.Frag) (Z H : Hp) (Q : VK) : RV → Prop
  | .v d => (∀ v, Dp K Z v d → Q v H) ∧ ∀ p o v, H p = none → NTb o → TOk o → Dp K (upd Z p o) v d → Q v (upd H p o)
  | .l xs => ∀ p us, H p = none → DpAll K Z us xs → Q (.ref p) (upd H p (.lst us))

/-! ### readings that are what they mean -/
def RB (X : Cx) (f : Value → Value → Sem Value) : R2 := fun x y H Q => ∀ (pins : List (Addr × Obj)) (s : Shared) (σ : St) (v u : Value), Inv X pins σ H s → RelV x v → RelV y u → wpAny (model X.prog X.w) X.A (f v u) (EP X pins σ Q) X.xe s
theorem or_RB {X : Cx} {f : Value → Value → Sem Value} : OpR X f (RB X f) := fun pins s σ H x y v u Q I rx ry h => h pins s σ v u I rx ry
theorem RB.of {X : Cx} {f : Value → Value → Sem Value} {r : R2} (o : OpR X f r) {x y : V} {H : Hp} {Q : VK} (h : r x y H Q) : RB X f x y H Q := fun pins s σ v u I rx ry => o pins s σ H x y v u Q I rx ry h
def RU (X : Cx) (f : Value → Sem Value) : V → Hp → VK → Prop := fun x H Q => ∀ (pins : List (Addr × Obj)) (s : Shared) (σ : St) (v : Value), Inv X pins σ H s → RelV x v → wpAny (model X.prog X.w) X.A (f v) (EP X pins σ Q) X.xe s
theorem un_RU {X : Cx} {f : Value → Sem Value} : UnR X f (RU X f) := fun pins s σ H x v Q I rx h => h pins s σ v I rx
def RCa (X : Cx) (f : Value) : List V → Hp → VK → Prop := fun xs H Q => ∀ (pins : List (Addr × Obj)) (s : Shared) (σ : St) (us : List Value), Inv X pins σ H s → Vals xs us → wpAny (model X.prog X.w) X.A (call f us) (EP X pins σ Q) X.xe s
theorem cr_RCa {X : Cx} {f : Value} : CallR X f (RCa X f) := fun pins s σ H xs us Q I r h => h pins s σ us I r
theorem RCa.of {X : Cx} {f : Value} {r : List V → Hp → VK → Prop} (o : CallR X f r) {xs : List V} {H : Hp} {Q : VK} (h : r xs H Q) : RCa X f xs H Q := fun pins s σ us I rx => o pins s σ H xs us Q I rx h
def RMt (X : Cx) (id : String) : V → List V → Hp → VK → Prop := fun x xs H Q => ∀ (pins : List (Addr × Obj)) (s : Shared) (σ : St) (v : Value) (us : List Value), Inv X pins σ H s → RelV x v → Vals xs us → wpAny (model X.prog X.w) X.A (call (.builtin id) (v :: us)) (EP X pins σ Q) X.xe s

section
variable {X : Cx} {Z H : Hp} {Q : VK} {pins : List (Addr × Obj)} {s : Shared} {σ : St}
/-- a scalar, the heap as it was -/
theorem fin_v {d : PyData} {r : RV} (I : Inv X pins σ H s) (q : OpPost X.K Z H Q (.v d)) {v : V} {u : Value} (hv : Dp X.K Z v d) (ru : RelV v u) : EP X pins σ Q u s := ⟨v, H, I, ru, q.1 v hv⟩
theorem opp_v {d : PyData} (q : OpPost X.K Z H Q (.v d)) {v : V} (hv : Dp X.K Z v d) : Q v H := q.1 v hv
theorem opp_tup {ds : List PyData} (q : OpPost X.K Z H Q (.v (.tuple ds))) (ez : Ex Z H) {us : List V} (h : DpAll X.K Z us ds) : ∀ its p, H p = none → Q (.ref p) (upd H p (.frz (tobj its) (.tup us))) := fun its p hp =>
  q.2 p (.frz (tobj its) (.tup us)) (.ref p) hp ntb_frz rfl (.tup (.inl (.inr ⟨_, upd_same⟩)) (dpa_mono (Ex.new (ez.free hp)) _ h))
/-- a new tuple -/
theorem new_tup {ds : List PyData} (I : Inv X pins σ H s) (q : OpPost X.K Z H Q (.v (.tuple ds))) (ez : Ex Z H) {us : List V} {its : List Value} (r : Vals us its) (hz : us.length ≤ sizeLine) (h : DpAll X.K Z us ds) :
    EP X pins σ Q (.ref s.heap.objs.size) { s with heap := s.heap.push (tobj its) } := by
  have fr : H s.heap.objs.size = none := I.hok.fresh (Nat.le_refl _)
  have gt : (s.heap.push (tobj its)).get? s.heap.objs.size = some (tobj its) := Heap.get?_push_size _ rfl
  refine ⟨.ref s.heap.objs.size, _, Inv.laid (t' := s.toks) (o := .frz (tobj its) (.tup us)) I (fun b u e => Heap.get?_push_of_some _ e) (Nat.le_refl _) ⟨gt, hz, its, r, _, gt, rfl, 0, rfl⟩, rfl, opp_tup q ez h its _ fr⟩
theorem opp_l {ds : List PyData} (q : OpPost X.K Z H Q (.l ds)) {us : List V} (h : DpAll X.K Z us ds) : ∀ p, H p = none → Q (.ref p) (upd H p (.lst us)) := fun p hp => q p us hp h
theorem dp_int {K : PySem.W.Frag} {v : V} {i : Int} (h : Dp K Z v (.int i)) : v = .int i := by cases h; rfl
theorem dp_bool {K : PySem.W.Frag} {v : V} {i : Bool} (h : Dp K Z v (.bool i)) : v = .bl i := by cases h; rfl
theorem dp_none {K : PySem.W.Frag} {v : V} (h : Dp K Z v .none) : v = .non := by cases h; rfl
theorem dp_str {K : PySem.W.Frag} {v : V} {x : Str} (h : Dp K Z v (.str x)) : v = .str x := by cases h; rfl
/-- a list or a tuple as the library reads it -/
theorem sh_list (I : Inv X pins σ H s) (ez : Ex Z H) {u : V} {v : Value} {ds : List PyData} (h : Sh X.K Z H u (.list ds)) (r : RelV u v) :
    ∃ (a : Addr) (us : List V) (its : List Value) (as : List Addr), u = .ref a ∧ v = .ref a ∧ s.heap.IsList a its.toArray ∧ PlainL s.heap a its.toArray ∧ Vals us its ∧ DpAll X.K Z us ds ∧ ReadsAll s.heap its ds as ∧ ds.length ≤ sizeLine ∧ its.length = ds.length := by
  obtain ⟨a, us, rfl, hs, da⟩ := h
  cases r
  obtain ⟨its, rv, pl, hz⟩ := I.list hs
  obtain ⟨as, hr⟩ := Dp.readsAll I ds us its (dpa_mono ez _ da) rv
  have e := dpa_len da
  have e2 := rv.length
  exact ⟨a, us, its, as, rfl, rfl, pl.isList, pl, rv, da, hr, by omega, by omega⟩
theorem sh_tup (I : Inv X pins σ H s) (ez : Ex Z H) {u : V} {v : Value} {ds : List PyData} (h : Sh X.K Z H u (.tuple ds)) (r : RelV u v) :
    ∃ (a : Addr) (us : List V) (its : List Value) (as : List Addr), u = .ref a ∧ v = .ref a ∧ s.heap.IsTuple a its.toArray ∧ Vals us its ∧ DpAll X.K Z us ds ∧ ReadsAll s.heap its ds as ∧ ds.length ≤ sizeLine ∧ its.length = ds.length := by
  obtain ⟨a, us, rfl, hs, da⟩ := h.tup ez
  cases r
  obtain ⟨its, rv, pl, hz⟩ := I.tuple hs
  obtain ⟨as, hr⟩ := Dp.readsAll I ds us its (dpa_mono ez _ da) rv
  have e := dpa_len da
  have e2 := rv.length
  exact ⟨a, us, its, as, rfl, rfl, pl, rv, da, hr, by omega, by omega⟩
theorem sh_reads (I : Inv X pins σ H s) (ez : Ex Z H) {u : V} {v : Value} {d : PyData} (h : Sh X.K Z H u d) (r : RelV u v) : ∃ as, Reads s.heap v d as := Dp.reads I d u v (h.dp ez) r
/-- an item that the library picked -/
theorem pick {h' : Heap} {us : List V} {its : List Value} {ds : List PyData} {as bs : List Addr} (rv : Vals us its) (da : DpAll X.K Z us ds) (hr : ReadsAll s.heap its ds as) (k : ∀ b o, s.heap.get? b = some o → h'.get? b = some o)
    {i : Nat} {v : Value} {d : PyData} (hi : its[i]? = some v) (rd : Reads h' v d bs) : ∃ u, RelV u v ∧ Dp X.K Z u d := by
  have hl := rv.length
  have hil : i < its.length := (List.getElem?_eq_some_iff.mp hi).1
  obtain ⟨w', e1, r1⟩ := rv.get (i := i) (x := us[i]'(by omega)) (List.getElem?_eq_getElem (by omega))
  rw [hi] at e1
  cases e1
  obtain ⟨d', e2, hd⟩ := dpa_atV i da (List.getElem?_eq_getElem (by omega))
  obtain ⟨bs', rd', _, _, _⟩ := PySem.W.readsAll_at hr i v hi
  have e3 : ds.getD i .none = d' := by
    rw [List.getD_eq_getElem?_getD, e2]
    rfl
  rw [e3] at rd'
  have e4 : d' = d := SeqAt.plain_unique d' d v _ _ (dp_plain d' hd) (PyProof.Rows.Reads.keeps k rd') rd
  subst e4
  exact ⟨_, r1, hd⟩
theorem alikeL_ok {xs : List PyData} (h : cmpOk xs = true) : W.AlikeAll xs ∧ PyData.depthAll xs ≤ 40 := by
  unfold cmpOk alikeL flatA at h
  simp only [Bool.and_eq_true, List.all_eq_true, decide_eq_true_eq] at h
  obtain ⟨⟨h1, h2⟩, h3⟩ := h
  refine ⟨⟨fun x hx y hy => h1 x hx y hy, fun x hx e => ?_⟩, h3⟩
  have := h2 x hx
  subst e
  cases this
theorem roomU {k : Nat} (hr : Room k X.A) {n : Nat} (h : n ≤ 190) : X.A.units + n < cLine := by
  have := hr.un
  omega
theorem tyv_of {d : PyData} {t : Ty} {v : Value} {as : List Addr} {Q : Value → Shared → Prop} {E : Value → Shared → Prop} {A : Around} {prog : Program} {w : World} (r : Reads s.heap v d as) (h : ∀ tk, Q (.bool (tyIs t d)) { s with toks := tk }) :
    wpAny (model prog w) A (call (.builtin "isinstance") [v, .type (match t with | .int => "int" | .bool => "bool" | .tuple => "tuple" | .str => "str" | .list => "list")]) Q E s := by
  cases t with
  | int => exact W.isinstance_int_data r fun tk _ => h tk
  | bool => exact W.isinstance_bool_data r fun tk _ => h tk
  | tuple => exact W.isinstance_tuple_data r fun tk _ => h tk
  | str => exact W.isinstance_str_data r fun tk _ => h tk
  | list => exact W.isinstance_list_data r fun tk _ => h tk
end

/-- the built-in function or class of a call of one argument -/
def op1f : Op1 → Option Value
  | .abs => some (.builtin "abs")
  | .int1 => some (.type "int")
  | .len => some (.builtin "len")
  | .sum => some (.builtin "sum")
  | .max => some (.builtin "max")
  | .min => some (.builtin "min")
  | .all => some (.builtin "all")
  | .any => some (.builtin "any")
  | .tuple => some (.type "tuple")
  | .list => some (.type "list")
  | .sorted => some (.builtin "sorted")
  | _ => none
section
variable {X : Cx} {Z H : Hp} {Q : VK} {u : V} {k : Nat}
theorem hAll {X : Cx} {k : Nat} (hr : Room k X.A) : X.A.handled = none := hr.hd
theorem sum_tup {prog : Program} {w : World} {A : Around} {E : Value → Shared → Prop} {s : Shared} {t : Addr} {vs : List Value} {ns : List Int} {Q : Value → Shared → Prop} (hh : A.handled = none) (ht : s.heap.IsTuple t vs.toArray) (hi : IntsAre vs ns)
    (h : ∀ h' tk t', (∀ b o, s.heap.get? b = some o → h'.get? b = some o) → Q (.int ns.sum t') { s with heap := h', toks := tk }) : wpAny (model prog w) A (call (.builtin "sum") [.ref t]) Q E s := by
  obtain ⟨xs, hx⟩ := hi.allInts.items
  have hn : numsOf vs.toArray.toList = ns := by rw [show vs.toArray.toList = vs from rfl, hi.numsOf]
  rw [hx] at ht hn
  rw [nums_intItems] at hn
  refine PySem.W.ktm_sumG hh ht fun h' tk t' hk => ?_
  have := h h' tk t' hk
  rw [preSum_eq, List.take_of_length_le (by simp), hn]
  exact this

/-- what may be sorted: alike, or not more than one -/
def Srt (ds : List PyData) : Prop := W.Sortable ds ∨ (ds.length ≤ 1 ∧ ∀ d ∈ ds, d ≠ .none)
theorem sortsAt_any {prog : Program} {w : World} {A : Around} {s : Shared} {vs : List Value} {ds : List PyData} (e : W.EachIs (fun v d => ∃ as, Reads s.heap v d as) vs ds) (hal : W.AllAlike ds) (hk : Srt ds) (hu : ∀ d, d ∈ ds → A.units + d.depth < cLine) : W.SortsAt prog w A s (W.dataKind s.heap ds) vs := by
  rcases hk with hk | ⟨h1, h2⟩
  · exact W.SortsAt.data e hal hk hu
  · refine ⟨fun v hv => ?_, general', fun E x y a b Q ha hb hq => ?_, fun h => ?_⟩
    · obtain ⟨d, hd, as, r⟩ := e.left v hv
      exact ⟨_, W.dataKind_some hal hd r⟩
    · obtain ⟨d, as, hd, ra, rfl⟩ := W.dataKind_inv ha
      obtain ⟨d', as', hd', rb, rfl⟩ := W.dataKind_inv hb
      have u := hu d hd
      have m := Nat.min_le_left d.depth d'.depth
      exact W.oneLt_alike (f := false) (fun h => by cases h) ra rb (hal d hd d' hd') (h2 d hd) (by omega) hq
    · have := e.length
      omega
/-- sorted of a list or a tuple -/
theorem sorted_seqD {prog : Program} {w : World} {A : Around} {E : Value → Shared → Prop} {s : Shared} {l : Addr} {T : String} {o : Obj} {its : List Value} {n : Nat} {ds : List PyData} {as : List Addr} {R : Value → PyData → Prop} {Q : Value → Shared → Prop} (hT : T = "list" ∨ T = "tuple")
    (ho : s.heap.get? l = some o) (hc : o.cls = .type T) (hd : o.data = .seq its.toArray n) (hr : ReadsAll s.heap its ds as) (e : W.EachIs R its ds) (hal : W.AllAlike ds) (hk : Srt ds) (hL : its.length ≤ sizeLine) (hu : ∀ d ∈ ds, A.units + 2 + d.depth < cLine)
    (h : ∀ (h1 h' : Heap) (ep : Nat) (out : List Value), (∀ b o, s.heap.get? b = some o → h1.get? b = some o) → (∀ b o, h1.get? b = some o → h'.get? b = some o) → h'.get? h1.objs.size = some (seqObj "list" (List.toArray out) ep) → W.EachIs R out (sortD ds) → Q (.ref h1.objs.size) { s with heap := h' }) :
    wpAny (model prog w) A (call (.builtin "sorted") [.ref l]) Q E s := by
  refine call_function_entry_kw kind_sorted plain_sorted entry_sorted (args_sorted1 _) ?_
  unfold Builtin.«sorted»
  refine wpAny_bind (m := checkCount "sorted" 1 1 _) (wpAny_pure ?_)
  refine wpAny_bind (wpAny_collect_seq l hT ho hc hd (fun h1 k1 => ?_) (by rw [List.size_toArray]; exact hL))
  show wpAny _ _ (newList its >>= _) _ _ _
  refine wpAny_bind (wpAny_newList ?_ hL)
  have hat : (h1.push (seqObj "list" its.toArray 0)).get? h1.objs.size = some (seqObj "list" its.toArray 0) := Heap.get?_push_size _ rfl
  have kk : ∀ b o, s.heap.get? b = some o → (W.sortingHeap (h1.push (seqObj "list" its.toArray 0)) h1.objs.size its).get? b = some o := fun b o q =>
    W.sortingHeap_old (Nat.ne_of_lt (Heap.lt_size (k1 b o q))) (Heap.get?_push_of_some _ (k1 b o q))
  have er : W.EachIs (fun v d => ∃ as, Reads (W.sortingHeap (h1.push (seqObj "list" its.toArray 0)) h1.objs.size its) v d as) its ds := by
    have := W.readsAll_each (h := s.heap) (fun d : PyData => d) (vs := its) (bs := ds) (as := as) (by rw [List.map_id']; exact hr)
    exact this.mono fun _ _ ⟨as, r⟩ => ⟨as, PyProof.Rows.Reads.keeps kk r⟩
  refine wpAny_bind (wpAny_holding (wpAny_call_entry_kw slot_list_sort ⟨_, hat, rfl⟩ entry_list_sort ?body (args_list_sort _)))
  case body =>
    show wpAny (model prog w) A.in1.in1 (Builtin.«list.sort» ⟨[.ref h1.objs.size], []⟩) _ _ _
    refine W.list_sort_vals (s := { s with heap := h1.push (seqObj "list" its.toArray 0) }) (κ := W.dataKind (W.sortingHeap (h1.push (seqObj "list" its.toArray 0)) h1.objs.size its) ds) hat
      (sortsAt_any (s := { s with heap := W.sortingHeap (h1.push (seqObj "list" its.toArray 0)) h1.objs.size its }) er hal hk fun d hd' => by show A.units + 1 + 1 + _ < _; have := hu d hd'; omega) hL ?_
    refine ⟨_, rfl, wpAny_pure ⟨_, rfl, ?_⟩⟩
    obtain ⟨ep, hep⟩ := sortedHeap_at (out := (W.sortVals (W.dataKind (W.sortingHeap (h1.push (seqObj "list" its.toArray 0)) h1.objs.size its) ds) false its its).toArray) hat
    have ed := W.sortVals_data (h' := W.sortingHeap (h1.push (seqObj "list" its.toArray 0)) h1.objs.size its) (R := R) (enc := fun d : PyData => d) false e er (by rw [List.map_id']; exact hal)
    rw [List.map_id'] at ed
    exact (h h1 _ ep _ k1 (fun b o q => by
      rw [sortedHeap_old (Nat.ne_of_lt (Heap.lt_size q)) (by rw [Heap.size_push]; exact Nat.lt_succ_of_lt (Heap.lt_size q))]
      exact Heap.get?_push_of_some _ q) hep ed)
theorem sortOk_of {xs : List PyData} (h : sortOk xs = true) : W.AllAlike xs ∧ Srt xs ∧ PyData.depthAll xs ≤ 40 := by
  unfold sortOk alikeL flatA at h
  simp only [Bool.and_eq_true, Bool.or_eq_true, List.all_eq_true, decide_eq_true_eq] at h
  obtain ⟨⟨h1, h2⟩, h3⟩ := h
  refine ⟨fun x hx y hy => h1 x hx y hy, ?_, h2⟩
  rcases h3 with h3 | h3 | h3
  · refine .inl (.inl fun d hd => ?_)
    have := h3 d hd
    unfold isTup1 at this
    split at this
    · exact ⟨_, _, rfl⟩
    · cases this
  · refine .inl (.inr fun d hd => ?_)
    have := h3 d hd
    refine ⟨fun e => ?_, fun ys e => ?_⟩
    · subst e; simp [isNone] at this
    · subst e; simp [isTup] at this
  · exact .inr ⟨h3.1, fun d hd e => by
      have := h3.2 d hd
      subst e
      simp [isNone] at this⟩
theorem depth_mem : ∀ {xs : List PyData} {d : PyData}, d ∈ xs → d.depth ≤ PyData.depthAll xs
  | x :: xs, d, h => by
    rw [PyData.depthAll]
    rcases List.mem_cons.mp h with rfl | h
    · exact Nat.le_max_left _ _
    · exact Nat.le_trans (depth_mem h) (Nat.le_max_right _ _)
theorem each_rel {K : PySem.W.Frag} {Z : Hp} : ∀ {us : List V} {its : List Value} {ds : List PyData}, Vals us its → DpAll K Z us ds → W.EachIs (fun v d => ∃ u, RelV u v ∧ Dp K Z u d) its ds
  | _, _, _, .nil, .nil => .nil
  | _, _, _, .cons r rs, .cons d dd => .cons ⟨_, r, d⟩ (each_rel rs dd)
theorem rel_each {K : PySem.W.Frag} {Z : Hp} : ∀ {its : List Value} {ds : List PyData}, W.EachIs (fun v d => ∃ u, RelV u v ∧ Dp K Z u d) its ds → ∃ us, Vals us its ∧ DpAll K Z us ds
  | _, _, .nil => ⟨[], .nil, .nil⟩
  | _, _, .cons ⟨u, r, d⟩ t => by
    obtain ⟨us, rs, ds⟩ := rel_each t
    exact ⟨u :: us, .cons r rs, .cons d ds⟩
theorem optmap {α β : Type} {o : Option α} {f : α → β} {b : β} (h : o.map f = some b) : ∃ a, o = some a ∧ f a = b := by
  cases o with
  | none => cases h
  | some a => exact ⟨a, rfl, Option.some.inj h⟩
theorem itesome {α : Type} {c : Prop} [Decidable c] {a b : α} (h : (if c then some a else none) = some b) : c ∧ a = b := by
  by_cases q : c
  · rw [if_pos q] at h
    exact ⟨q, Option.some.inj h⟩
  · rw [if_neg q] at h
    cases h
theorem rca_val {f : Value} (ez : Ex Z H) {d : PyData} (sh : Sh X.K Z H u d)
    (h : ∀ (pins : List (Addr × Obj)) (s : Shared) (σ : St) (v : Value), Inv X pins σ H s → RelV u v → wpAny (model X.prog X.w) X.A (call f [v]) (EP X pins σ Q) X.xe s) : RCa X f [u] H Q := fun pins s σ us I r => by
  obtain ⟨w', rfl, r1⟩ := vals1 r
  exact h pins s σ w' I r1
theorem op1_ok (hr : Room k X.A) (hc : X.calm = true) (ez : Ex Z H) {o : Op1} {f : Value} (hf : op1f o = some f) {d : PyData} {r : RV} (sh : Sh X.K Z H u d) (h : sem1 o d = some r) (q : OpPost X.K Z H Q r) : RCa X f [u] H Q := by
  have hh := hr.hd
  cases o with
  | abs =>
    cases d <;> cases h
    cases hf
    obtain rfl := dp_int sh
    exact RCa.of call_abs ⟨_, rfl, opp_v q (.int _)⟩
  | int1 =>
    cases d with
    | int i =>
      cases h
      cases hf
      obtain rfl := dp_int sh
      exact RCa.of call_int1 (.inl ⟨_, rfl, opp_v q (.int _)⟩)
    | bool i =>
      cases h
      cases hf
      obtain rfl := dp_bool sh
      exact RCa.of call_int1 (.inr ⟨_, rfl, opp_v q (.int _)⟩)
    | _ => cases h
  | len =>
    cases d with
    | list xs =>
      cases h
      cases hf
      obtain ⟨a, us, rfl, hs, da⟩ := sh
      refine RCa.of call_len_seq ⟨a, us, rfl, .inl hs, ?_⟩
      rw [dpa_len da]
      exact opp_v q (.int _)
    | tuple xs =>
      cases h
      cases hf
      obtain ⟨a, us, rfl, hs, da⟩ := sh.tup ez
      refine RCa.of call_len_seq ⟨a, us, rfl, .inr hs, ?_⟩
      rw [dpa_len da]
      exact opp_v q (.int _)
    | _ => cases h
  | sum =>
    cases d with
    | list xs =>
      obtain ⟨ns, e, rfl⟩ := optmap (show (intsOf xs).map _ = some r from h)
      · cases hf
        obtain ⟨a, us, rfl, hs, da⟩ := sh
        obtain ⟨e1, _⟩ := dpa_ints da e
        subst e1
        exact RCa.of (cr_sum hc) ⟨a, ns, rfl, hs, opp_v q (.int _)⟩
    | tuple xs =>
      obtain ⟨ns, e, rfl⟩ := optmap (show (intsOf xs).map _ = some r from h)
      · cases hf
        refine rca_val ez sh fun pins s σ v I rv => ?_
        obtain ⟨a, us, its, as, rfl, rfl, ht, rvs, da, _, _, _⟩ := sh_tup I ez sh rv
        obtain ⟨e1, _⟩ := dpa_ints da e
        subst e1
        refine sum_tup hh ht (Vals.ints rvs) fun h' tk t' hk => ?_
        exact ⟨.int ns.sum, H, I.kept hk, ⟨t', rfl⟩, opp_v q (.int _)⟩
    | _ => cases h
  | max =>
    cases d with
    | list xs =>
      cases xs with
      | nil => cases h
      | cons x xs =>
        obtain ⟨c, rfl⟩ := itesome (show (if cmpOk (x :: xs) = true then _ else none) = some r from h)
        · cases hf
          obtain ⟨al, dp⟩ := alikeL_ok c
          refine rca_val ez sh fun pins s σ v I rv => ?_
          obtain ⟨a, us, its, as, rfl, rfl, hl, _, rvs, da, hrd, _, _⟩ := sh_list I ez sh rv
          refine W.max_list_data hh hl hrd al (by have := roomU hr (n := 41) (by decide); omega) fun i v h' tk bs hi rd hk => ?_
          obtain ⟨w', r1, r2⟩ := pick rvs da hrd hk (by simpa using hi) rd
          exact ⟨w', H, I.kept hk, r1, q.1 _ r2⟩
    | tuple xs =>
      cases xs with
      | nil => cases h
      | cons x xs =>
        obtain ⟨c, rfl⟩ := itesome (show (if cmpOk (x :: xs) = true then _ else none) = some r from h)
        · cases hf
          obtain ⟨al, dp⟩ := alikeL_ok c
          refine rca_val ez sh fun pins s σ v I rv => ?_
          obtain ⟨a, us, its, as, rfl, rfl, hl, rvs, da, hrd, _, _⟩ := sh_tup I ez sh rv
          refine W.max_tuple_data hh hl hrd al (by have := roomU hr (n := 41) (by decide); omega) fun i v h' tk bs hi rd hk => ?_
          obtain ⟨w', r1, r2⟩ := pick rvs da hrd hk (by simpa using hi) rd
          exact ⟨w', H, I.kept hk, r1, q.1 _ r2⟩
    | _ => cases h
  | min =>
    cases d with
    | list xs =>
      cases xs with
      | nil => cases h
      | cons x xs =>
        obtain ⟨c, rfl⟩ := itesome (show (if cmpOk (x :: xs) = true then _ else none) = some r from h)
        · cases hf
          obtain ⟨al, dp⟩ := alikeL_ok c
          refine rca_val ez sh fun pins s σ v I rv => ?_
          obtain ⟨a, us, its, as, rfl, rfl, hl, _, rvs, da, hrd, _, _⟩ := sh_list I ez sh rv
          refine W.min_list_data hh hl hrd al (by have := roomU hr (n := 41) (by decide); omega) fun i v h' tk bs hi rd hk => ?_
          obtain ⟨w', r1, r2⟩ := pick rvs da hrd hk (by simpa using hi) rd
          exact ⟨w', H, I.kept hk, r1, q.1 _ r2⟩
    | tuple xs =>
      cases xs with
      | nil => cases h
      | cons x xs =>
        obtain ⟨c, rfl⟩ := itesome (show (if cmpOk (x :: xs) = true then _ else none) = some r from h)
        · cases hf
          obtain ⟨al, dp⟩ := alikeL_ok c
          refine rca_val ez sh fun pins s σ v I rv => ?_
          obtain ⟨a, us, its, as, rfl, rfl, hl, rvs, da, hrd, _, _⟩ := sh_tup I ez sh rv
          refine W.min_tuple_data hh hl hrd al (by have := roomU hr (n := 41) (by decide); omega) fun i v h' tk bs hi rd hk => ?_
          obtain ⟨w', r1, r2⟩ := pick rvs da hrd hk (by simpa using hi) rd
          exact ⟨w', H, I.kept hk, r1, q.1 _ r2⟩
    | _ => cases h
  | all =>
    cases d with
    | list xs =>
      obtain ⟨ns, e, rfl⟩ := optmap (show (boolsOf xs).map _ = some r from h)
      · cases hf
        obtain ⟨a, us, rfl, hs, da⟩ := sh
        obtain ⟨e1, _⟩ := dpa_bools da e
        subst e1
        exact RCa.of (cr_all hc) ⟨a, ns, rfl, hs, opp_v q (.bl _)⟩
    | _ => cases h
  | any =>
    cases d with
    | list xs =>
      obtain ⟨ns, e, rfl⟩ := optmap (show (boolsOf xs).map _ = some r from h)
      · cases hf
        obtain ⟨a, us, rfl, hs, da⟩ := sh
        obtain ⟨e1, _⟩ := dpa_bools da e
        subst e1
        exact RCa.of (cr_any hc) ⟨a, ns, rfl, hs, opp_v q (.bl _)⟩
    | _ => cases h
  | tuple =>
    cases d with
    | list xs =>
      cases h
      cases hf
      obtain ⟨a, us, rfl, hs, da⟩ := sh
      intro pins s σ us' I rv
      obtain ⟨v, rfl, rx⟩ := vals1 rv
      cases rx
      obtain ⟨its, r2, pl, hz⟩ := I.list hs
      have hln := r2.length
      refine call_tuple_list pl.isList (fun h2 kp => ?_) (by rw [List.size_toArray]; omega)
      have I1 := I.kept (t' := s.toks) kp
      exact new_tup (s := { s with heap := h2 }) I1 q ez r2 hz da
    | tuple xs =>
      cases h
      cases hf
      obtain ⟨a, us, rfl, hs, da⟩ := sh.tup ez
      exact RCa.of call_tuple_of ⟨a, us, rfl, .inr ⟨hs, q.1 _ sh⟩⟩
    | _ => cases h
  | list =>
    cases d with
    | list xs =>
      cases h
      cases hf
      obtain ⟨a, us, rfl, hs, da⟩ := sh
      exact RCa.of call_list_of ⟨a, us, rfl, .inl hs, opp_l q da⟩
    | tuple xs =>
      cases h
      cases hf
      obtain ⟨a, us, rfl, hs, da⟩ := sh.tup ez
      exact RCa.of call_list_of ⟨a, us, rfl, .inr hs, opp_l q da⟩
    | _ => cases h
  | sorted =>
    have fin : ∀ {xs : List PyData} {T : String} {a : Addr} {us : List V} {its : List Value} {as : List Addr} {o : Obj} {n : Nat} {pins : List (Addr × Obj)} {s : Shared} {σ : St}, sortOk xs = true → OpPost X.K Z H Q (.l (sortD xs)) → Inv X pins σ H s → (T = "list" ∨ T = "tuple") → s.heap.get? a = some o → o.cls = .type T → o.data = .seq its.toArray n →
        Vals us its → DpAll X.K Z us xs → ReadsAll s.heap its xs as → its.length ≤ sizeLine → wpAny (model X.prog X.w) X.A (call (.builtin "sorted") [.ref a]) (EP X pins σ Q) X.xe s := by
      intro xs T a us its as o n pins s σ c q I hT ho hcl hd rvs da hrd hz
      obtain ⟨al, so, dp⟩ := sortOk_of c
      refine sorted_seqD hT ho hcl hd hrd (each_rel rvs da) al so hz (fun d hd => by have := roomU hr (n := 42) (by decide); have := depth_mem hd; omega) fun h1 h' ep out k1 k2 hp eo => ?_
      obtain ⟨us', rv', da'⟩ := rel_each eo
      have hln : us'.length ≤ sizeLine := by
        have e1 := dpa_len da'
        have e2 : (sortD xs).length = xs.length := by unfold sortD; exact List.length_mergeSort _
        have e3 := dpa_len da
        have e4 := rvs.length
        omega
      have I1 : Inv X pins σ H { s with heap := h1 } := I.kept (t' := s.toks) k1
      have I2 : Inv X pins σ (upd H h1.objs.size (.lst us')) { s with heap := h' } := I1.laid (t' := s.toks) k2 (Nat.le_refl _) ⟨hln, out, ep, rv', hp⟩
      exact ⟨.ref h1.objs.size, _, I2, rfl, q _ _ (I1.hok.fresh (Nat.le_refl _)) da'⟩
    cases d with
    | list xs =>
      obtain ⟨c, rfl⟩ := itesome (show (if sortOk xs = true then _ else none) = some r from h)
      cases hf
      refine rca_val ez sh fun pins s σ v I rv => ?_
      obtain ⟨a, us, its, as, rfl, rfl, hl, _, rvs, da, hrd, hz, hz2⟩ := sh_list I ez sh rv
      obtain ⟨o, ho, hcl, n, hd⟩ := hl
      exact fin c q I (.inl rfl) ho hcl hd rvs da hrd (by omega)
    | tuple xs =>
      obtain ⟨c, rfl⟩ := itesome (show (if sortOk xs = true then _ else none) = some r from h)
      cases hf
      refine rca_val ez sh fun pins s σ v I rv => ?_
      obtain ⟨a, us, its, as, rfl, rfl, hl, rvs, da, hrd, hz, hz2⟩ := sh_tup I ez sh rv
      obtain ⟨o, ho, hcl, n, hd⟩ := hl
      exact fin c q I (.inr rfl) ho hcl hd rvs da hrd (by omega)
    | _ => cases h
  | _ => cases hf
end
end PL

/-! part PLOps2 -/
set_option Elab.async false
set_option linter.all false
set_option autoImplicit false
set_option maxRecDepth 100000
set_option maxHeartbeats 4000000
/-! operations of two operands -/
namespace PL
open PySem PySem.Spec PyProof.Rows L2

def op2o : Op2 → Option Operator
  | .add => some .Add
  | .sub => some .Sub
  | .mul => some .Mult
  | .fdiv => some .FloorDiv
  | .mod => some .Mod
  | .pow => some .Pow
  | _ => none
def op2c : Op2 → Option CmpOp
  | .eq => some .Eq
  | .ne => some .NotEq
  | .lt => some .Lt
  | .le => some .LtE
  | .gt => some .Gt
  | .ge => some .GtE
  | .inn => some .In
  | .nin => some .NotIn
  | _ => none
section
variable {X : Cx} {Z H : Hp} {Q : VK} {u v : V} {k : Nat}
theorem szOk_of {n : Nat} (h : szOk n = true) : n ≤ sizeLine := by
  rw [sizeLine_eq]
  exact of_decide_eq_true h
theorem rb_val {f : Value → Value → Sem Value} (h : ∀ (pins : List (Addr × Obj)) (s : Shared) (σ : St) (a b : Value), Inv X pins σ H s → RelV u a → RelV v b → wpAny (model X.prog X.w) X.A (f a b) (EP X pins σ Q) X.xe s) : RB X f u v H Q :=
  fun pins s σ a b I ra rb => h pins s σ a b I ra rb
/-- tuple * 1 -/
theorem tuple_mul1 (l : Addr) (items : Array Value) (n : Nat) (dd : Option Addr) (sl : Array (Option Value)) (x : Int) (t : Tok) (c0 : (decide (x < -(2 ^ 63)) || decide (x ≥ 2 ^ 63)) = false) (c1 : (items.isEmpty || x == 1) = true) :
    Meets (Builtin.«tuple.__mul__» ⟨[.ref l, .int x t], []⟩) (fun _ R s => s.heap.get? l = some { cls := .type "tuple", dict := dd, data := .seq items n, slots := sl } ∧
      R (.ok (.ret (Value.ref l))) { s with heap := s.heap, toks := s.toks }) :=
  .of_wp fun prog w A R s h => by
    obtain ⟨hp, g, d, tk, os⟩ := s
    obtain ⟨hl, h⟩ := h
    have f1 := AutoSeq1.idx_int
    wp_walk using wpAny_loadPart' hl
    repeat (first
      | (refine wpAny_ite_false (decide_eq_false (by rw [c0]; exact Bool.false_ne_true)) ?_; wp_walk using wpAny_loadPart' hl)
      | (refine wpAny_ite_true (decide_eq_true (by rw [c1])) ?_; wp_walk using wpAny_loadPart' hl))
    exact ⟨_, rfl, h⟩
theorem op_rep1 (ez : Ex Z H) {xs : List PyData} {i : Int} (e1 : i = 1) (su : Sh X.K Z H u (.tuple xs)) (sv : v = .int i) (q : Q u H) : RB X (binaryOp .Mult) u v H Q := rb_val fun pins s σ a b I ra rb => by
  obtain ⟨l, us, its, as, rfl, rfl, ⟨⟨cls, dd, data, sl⟩, ho, hc, n, hd⟩, _⟩ := sh_tup I ez su ra
  subst sv
  obtain ⟨t, rfl⟩ := rb
  simp only at hc hd
  subst hc hd
  subst e1
  refine wpAny_binaryOp_repeat_ref (T := "tuple") (U := "int") (by decide) ⟨_, ho, rfl⟩ (fun s' => typeIs_int s' 1 t) noFill_tuple_mul F.fills_int_mul F.slot_int_rmul repeat_tuple F.slot_int_index.lookup
    (call_meets F.slot_int_rmul (typeIs_int s 1 t) F.entry_int_rmul (F.args_int_rmul_2 _ _) (int_rmul_tuple 1 t l its.toArray n dd sl)
      ⟨ho, rfl, ⟨_, ho, rfl⟩, call_meets F.slot_tuple_mul ⟨_, ho, rfl⟩ F.entry_tuple_mul (F.args_tuple_mul_2 _ _) (tuple_mul1 l its.toArray n dd sl 1 t (by decide) (by simp)) ⟨ho, ?_⟩⟩)
  exact ⟨.ref l, H, I, rfl, q⟩
end
end PL

/-! part PLOps3 -/
set_option Elab.async false
set_option linter.all false
set_option autoImplicit false
set_option maxRecDepth 100000
set_option maxHeartbeats 4000000
namespace PL
open PySem PySem.Spec PyProof.Rows L2
section
variable {X : Cx} {Z H : Hp} {Q : VK} {u v : V} {k : Nat}
theorem vals_len {us : List V} {its : List Value} {ds : List PyData} (r : Vals us its) (d : DpAll X.K Z us ds) : its.length = ds.length := by
  have := r.length
  have := dpa_len d
  omega
theorem add_ok (hr : Room k X.A) (ez : Ex Z H) {a b : PyData} {r : RV} (su : Sh X.K Z H u a) (sv : Sh X.K Z H v b) (h : sem2 .add a b = some r) (q : OpPost X.K Z H Q r) : RB X (binaryOp .Add) u v H Q := by
  cases a with
  | int i =>
    cases b with
    | int j =>
      cases h
      obtain rfl := dp_int su
      obtain rfl := dp_int sv
      exact RB.of op_add ⟨_, _, rfl, rfl, opp_v q (.int _)⟩
    | _ => cases h
  | tuple xs =>
    cases b with
    | tuple ys =>
      obtain ⟨c, rfl⟩ := itesome (show (if szOk (xs.length + ys.length) = true then _ else none) = some r from h)
      have c := szOk_of c
      refine rb_val fun pins s σ x y I rx ry => ?_
      obtain ⟨l, us, its, as, rfl, rfl, hl, rvs, da, _, hz, hz2⟩ := sh_tup I ez su rx
      obtain ⟨l2, us2, its2, as2, rfl, rfl, hl2, rvs2, da2, _, hz3, hz4⟩ := sh_tup I ez sv ry
      have n1 := dpa_len da
      have n2 := dpa_len da2
      by_cases e : its = []
      · subst e
        cases rvs
        cases da
        exact L2.cat_tup0 hl hl2 ⟨.ref l2, H, I, rfl, q.1 _ sv⟩
      · refine HT.cat_tup hl hl2 e (fun e2 => ?_) (fun e2 => ?_) (by omega)
        · subst e2
          cases rvs2
          cases da2
          rw [List.append_nil] at q
          exact ⟨.ref l, H, I, rfl, q.1 _ su⟩
        · exact new_tup I q ez (rvs.append rvs2) (by rw [List.length_append]; omega) (dpa_app da da2)
    | _ => cases h
  | list xs =>
    cases b with
    | list ys =>
      obtain ⟨c, rfl⟩ := itesome (show (if szOk (xs.length + ys.length) = true then _ else none) = some r from h)
      have c := szOk_of c
      refine rb_val fun pins s σ a b I ra rb => ?_
      obtain ⟨l, us, its, as, rfl, rfl, hl, _, rvs, da, _, hz, hz2⟩ := sh_list I ez su ra
      obtain ⟨l2, us2, its2, as2, rfl, rfl, hl2, _, rvs2, da2, _, hz3, hz4⟩ := sh_list I ez sv rb
      obtain ⟨⟨cls, dd, data, sl⟩, ho, hc, n, hd⟩ := id hl
      obtain ⟨⟨cls2, dd2, data2, sl2⟩, ho2, hc2, n2, hd2⟩ := id hl2
      simp only at hc hd hc2 hd2
      subst hc hd hc2 hd2
      refine concat_meets ⟨_, ho, rfl⟩ ⟨_, ho2, rfl⟩ noFill_list_add seq_list_add PySem.F.slot_list_add PySem.F.entry_list_add (PySem.F.args_list_add_2 _ _) (list_addW l l2 its.toArray its2.toArray n n2 dd dd2 sl sl2 (by simp only [List.size_toArray]; omega)) ⟨ho, ho2, ?_⟩
      have e : its.toArray ++ its2.toArray = (its ++ its2).toArray := by simp
      rw [e]
      have e1 := dpa_len da
      have e2 := dpa_len da2
      exact ⟨.ref s.heap.objs.size, _, I.lnew (t' := s.toks) (rvs.append rvs2) (by rw [List.length_append]; omega), rfl, q _ _ I.fresh (dpa_app da da2)⟩
    | _ => cases h
  | _ => cases h
theorem flat1 {xs : List PyData} (h : xs ≠ []) {i : Int} (e : i = 1) : (List.replicate i.toNat xs).flatten = xs := by
  subst e
  simp
theorem mul_ok (hr : Room k X.A) (ez : Ex Z H) {a b : PyData} {r : RV} (su : Sh X.K Z H u a) (sv : Sh X.K Z H v b) (h : sem2 .mul a b = some r) (q : OpPost X.K Z H Q r) : RB X (binaryOp .Mult) u v H Q := by
  cases a with
  | int i =>
    cases b with
    | int j =>
      obtain ⟨c, rfl⟩ := itesome (show (if mulOk i j = true then _ else none) = some r from h)
      obtain rfl := dp_int su
      obtain rfl := dp_int sv
      unfold mulOk at c
      simp only [Bool.or_eq_true, Bool.and_eq_true, decide_eq_true_eq] at c
      rcases c with (c | c) | c
      · exact RB.of op_mul ⟨_, _, rfl, rfl, .inl (by omega), opp_v q (.int _)⟩
      · exact RB.of op_mul ⟨_, _, rfl, rfl, .inr (by omega), opp_v q (.int _)⟩
      · exact RB.of op_mulW ⟨_, _, rfl, rfl, wide_mul c.1 c.2 (by decide) (by decide) (by decide), opp_v q (.int _)⟩
    | _ => cases h
  | tuple xs =>
    cases b with
    | int j =>
      obtain ⟨⟨c1, c2, c3, c4⟩, rfl⟩ := itesome (show (if 1 ≤ j ∧ j ≤ 1000 ∧ xs.length ≤ 1000 ∧ xs ≠ [] then _ else none) = some r from h)
      by_cases e : j = 1
      · rw [flat1 c4 e] at q
        exact op_rep1 ez e su (dp_int sv) (q.1 _ su)
      · obtain rfl := dp_int sv
        refine rb_val fun pins s σ x y I rx ry => ?_
        obtain ⟨l, us, its, as, rfl, rfl, ⟨⟨cls, dd, dt, sl⟩, o1, o2, n, o3⟩, rvs, da, _, hz, hz2⟩ := sh_tup I ez su rx
        obtain ⟨t, rfl⟩ := ry
        simp only at o2 o3
        subst o2 o3
        have n1 := dpa_len da
        have x0 : its ≠ [] := fun z => by
          subst z
          cases rvs
          cases da
          exact c4 rfl
        have x1 : its.toArray.isEmpty = false := by
          cases its with
          | nil => exact absurd rfl x0
          | cons a b => rfl
        have x2 : its.toArray.size = xs.length := by rw [List.size_toArray, hz2]
        have x3 : ((its.toArray.size : Nat) : Int) * j ≤ 1000000 := by
          rw [x2]
          exact Int.le_trans (Int.mul_le_mul_of_nonneg_right (b := 1000) (by omega) (by omega)) (by omega)
        have x4 : j.toNat * xs.length ≤ 1000000 := Nat.le_trans (Nat.mul_le_mul (show j.toNat ≤ 1000 by omega) c3) (by decide)
        have fl : (List.replicate j.toNat its).flatten.length ≤ sizeLine := by
          rw [PyProof.Rows.lm_len_rep_flat, hz2, sizeLine_eq]
          omega
        have fu : (List.replicate j.toNat us).flatten.length ≤ sizeLine := by
          rw [PyProof.Rows.lm_len_rep_flat, n1, sizeLine_eq]
          omega
        have y0 : (decide (j < -(2 ^ 63)) || decide (j ≥ 2 ^ 63)) = false := by
          rw [decide_eq_false (by omega), decide_eq_false (by omega)]
          rfl
        have y1 : (its.toArray.isEmpty || j == 1) = false := by
          rw [x1, Bool.false_or]
          exact beq_eq_false_iff_ne.mpr e
        have y2 : (decide (j ≤ 0) || its.toArray.isEmpty) = false := by
          rw [x1, Bool.or_false]
          exact decide_eq_false (by omega)
        have y3 : Builtin.Tuple.tupleTooMany (((its.toArray.size : Nat) : Int) * j) = false := by
          unfold Builtin.Tuple.tupleTooMany
          rw [sizeLine_eq, decide_eq_false]
          omega
        have ty : s.TypeIs (.ref l) "tuple" := ⟨_, o1, rfl⟩
        refine wpAny_binaryOp_repeat_ref (by decide) ty (fun s' => typeIs_int s' j t) noFill_tuple_mul F.fills_int_mul F.slot_int_rmul repeat_tuple F.slot_int_index.lookup ?_
        refine call_meets F.slot_int_rmul (typeIs_int s j t) F.entry_int_rmul (F.args_int_rmul_2 _ _) (int_rmul_tuple j t l its.toArray n dd sl) ⟨o1, rfl, ty, ?_⟩
        refine call_meets F.slot_tuple_mul ty F.entry_tuple_mul (F.args_tuple_mul_2 _ _) (tuple_mulW l its.toArray n dd sl j t y0 y1 y2 (by omega) y3 (by rw [size_rep, List.size_toArray]; exact fl)) ⟨o1, ?_⟩
        rw [size_rep]
        exact new_tup I q ez (rvs.rep j.toNat) fu (dpa_rep da _)
    | _ => cases h
  | _ => cases h
theorem bin_ok (hr : Room k X.A) (ez : Ex Z H) {o : Op2} {op : Operator} (ho : op2o o = some op) {a b : PyData} {r : RV} (su : Sh X.K Z H u a) (sv : Sh X.K Z H v b) (h : sem2 o a b = some r) (q : OpPost X.K Z H Q r) : RB X (binaryOp op) u v H Q := by
  cases o with
  | add => cases ho; exact add_ok hr ez su sv h q
  | mul => cases ho; exact mul_ok hr ez su sv h q
  | sub =>
    cases ho
    cases a with
    | int i =>
      cases b with
      | int j =>
        cases h
        obtain rfl := dp_int su
        obtain rfl := dp_int sv
        exact RB.of op_sub ⟨_, _, rfl, rfl, opp_v q (.int _)⟩
      | _ => cases h
    | _ => cases h
  | fdiv =>
    cases ho
    cases a with
    | int i =>
      cases b with
      | int j =>
        obtain ⟨c, rfl⟩ := itesome (show (if divOk j = true then _ else none) = some r from h)
        unfold divOk at c
        simp only [Bool.and_eq_true, decide_eq_true_eq] at c
        obtain rfl := dp_int su
        obtain rfl := dp_int sv
        exact RB.of op_fdivW ⟨_, _, rfl, rfl, wide_div c.1 c.2 (by decide) (by decide), opp_v q (.int _)⟩
      | _ => cases h
    | _ => cases h
  | mod =>
    cases ho
    cases a with
    | int i =>
      cases b with
      | int j =>
        obtain ⟨c, rfl⟩ := itesome (show (if 0 < j then _ else none) = some r from h)
        obtain rfl := dp_int su
        obtain rfl := dp_int sv
        exact RB.of op_mod ⟨_, _, rfl, rfl, c, opp_v q (.int _)⟩
      | _ => cases h
    | _ => cases h
  | pow =>
    cases ho
    cases a with
    | int i =>
      cases b with
      | int j =>
        obtain ⟨⟨c1, c2, c3⟩, rfl⟩ := itesome (show (if 0 ≤ j ∧ j ≤ 1000 ∧ i.natAbs < 1000 then _ else none) = some r from h)
        obtain rfl := dp_int su
        obtain rfl := dp_int sv
        exact RB.of op_pow ⟨_, _, rfl, rfl, ⟨c1, by omega, by omega⟩, opp_v q (.int _)⟩
      | _ => cases h
    | _ => cases h
  | _ => cases ho
theorem flatD_of {d : PyData} (h : flatD d = true) : d.depth ≤ 40 := of_decide_eq_true h
theorem room_flat (hr : Room k X.A) {a b : Nat} (h : b ≤ 40) : X.A.units + 1 + min a b < cLine := by
  have := roomU hr (n := 41) (by decide)
  have := Nat.min_le_right a b
  omega
theorem dpa_plainAll {us : List V} {xs : List PyData} (h : DpAll X.K Z us xs) : PyData.plainAll xs = true := dpa_plain xs h
theorem sh_plain {d : PyData} (h : Sh X.K Z H u d) : d.plain = true := by
  cases d with
  | list xs =>
    obtain ⟨_, _, _, _, da⟩ := h
    exact dpa_plain xs da
  | _ => exact dp_plain _ h
theorem isNone_ne {d : PyData} (h : (!isNone d) = true) : d ≠ .none := fun e => by subst e; cases h
/-- an order -/
theorem ord_ok (hr : Room k X.A) (ez : Ex Z H) {op : CmpOp} {f : Int → Int → Bool} {g : PyData → PyData → Bool} (hi : ∀ i j, u = .int i → v = .int j → Q (.bl (f i j)) H → RB X (compareOp op) u v H Q)
    (hd : ∀ (prog : Program) (w : World) (A : Around) (E : Value → Shared → Prop) (s : Shared) (x y : Value) (da db : PyData) (as bs : List Addr) (Q : Value → Shared → Prop), Reads s.heap x da as → Reads s.heap y db bs → W.alike da db = true → da ≠ .none → A.units + min da.depth db.depth < cLine → Q (.bool (g da db)) s → wpAny (model prog w) A (compareOp op x y) Q E s)
    {a b : PyData} {r : RV} (su : Sh X.K Z H u a) (sv : Sh X.K Z H v b) (h : cmpSem f g a b = some r) (q : OpPost X.K Z H Q r) : RB X (compareOp op) u v H Q := by
  have gen : ∀ {a b : PyData}, Sh X.K Z H u a → Sh X.K Z H v b → (if (W.alike a b && !isNone a && flatD a) = true then some (RV.v (.bool (g a b))) else none) = some r → RB X (compareOp op) u v H Q := by
    intro a b su sv h
    obtain ⟨c, rfl⟩ := itesome h
    simp only [Bool.and_eq_true] at c
    obtain ⟨⟨c1, c2⟩, c3⟩ := c
    refine rb_val fun pins s σ x y I rx ry => ?_
    obtain ⟨as, r1⟩ := sh_reads I ez su rx
    obtain ⟨bs, r2⟩ := sh_reads I ez sv ry
    refine hd _ _ _ _ s x y a b as bs _ r1 r2 c1 (isNone_ne c2) ?_ ⟨.bl (g a b), H, I, rfl, opp_v q (.bl _)⟩
    have := roomU hr (n := 41) (by decide)
    have := Nat.min_le_left a.depth b.depth
    have := flatD_of c3
    omega
  cases a with
  | int i =>
    cases b with
    | int j =>
      cases h
      exact hi i j (dp_int su) (dp_int sv) (opp_v q (.bl _))
    | _ => exact gen su sv h
  | _ => exact gen su sv h
theorem in_ok (hr : Room k X.A) (ez : Ex Z H) {neg : Bool} {a : PyData} {xs : List PyData} {b : PyData} (hb : b = .list xs ∨ b = .tuple xs) (su : Sh X.K Z H u a) (sv : Sh X.K Z H v b) (c : flatD a = true)
    (q : Q (.bl (neg != (xs.any fun z => PyData.eqv z a))) H) : RB X (compareOp (if neg then .NotIn else .In)) u v H Q := rb_val fun pins s σ x y I rx ry => by
  obtain ⟨as, r1⟩ := sh_reads I ez su rx
  obtain ⟨bs, r2⟩ := sh_reads I ez sv ry
  have fin : EP X pins σ Q (.bool (neg != (xs.any fun z => PyData.eqv z a))) s := ⟨.bl _, H, I, rfl, q⟩
  have pb : b.plain = true := sh_plain sv
  have px : PyData.plainAll xs = true := by rcases hb with rfl | rfl <;> exact pb
  rcases hb with rfl | rfl
  · cases neg with
    | false => exact SeqAt.in_list_data r2 r1 px (sh_plain su) (room_flat hr (flatD_of c)) (by simpa using fin)
    | true => exact SeqAt.notIn_list_data r2 r1 px (sh_plain su) (room_flat hr (flatD_of c)) (by simpa using fin)
  · cases neg with
    | false => exact SeqAt.in_tuple_data r2 r1 px (sh_plain su) (room_flat hr (flatD_of c)) (by simpa using fin)
    | true => exact SeqAt.notIn_tuple_data r2 r1 px (sh_plain su) (room_flat hr (flatD_of c)) (by simpa using fin)
theorem cmp_ok (hr : Room k X.A) (ez : Ex Z H) {o : Op2} {op : CmpOp} (ho : op2c o = some op) {a b : PyData} {r : RV} (su : Sh X.K Z H u a) (sv : Sh X.K Z H v b) (h : sem2 o a b = some r) (q : OpPost X.K Z H Q r) : RB X (compareOp op) u v H Q := by
  cases o with
  | eq =>
    cases ho
    obtain ⟨c, rfl⟩ := itesome (show (if (flatD a && flatD b) = true then _ else none) = some r from h)
    simp only [Bool.and_eq_true] at c
    refine rb_val fun pins s σ x y I rx ry => ?_
    obtain ⟨as, r1⟩ := sh_reads I ez su rx
    obtain ⟨bs, r2⟩ := sh_reads I ez sv ry
    refine SeqAt.eq_plain r1 r2 (sh_plain su) (sh_plain sv) ?_ ⟨.bl _, H, I, rfl, opp_v q (.bl _)⟩
    have := room_flat (X := X) (a := a.depth) hr (flatD_of c.2)
    omega
  | ne =>
    cases ho
    obtain ⟨c, rfl⟩ := itesome (show (if (flatD a && flatD b) = true then _ else none) = some r from h)
    simp only [Bool.and_eq_true] at c
    refine rb_val fun pins s σ x y I rx ry => ?_
    obtain ⟨as, r1⟩ := sh_reads I ez su rx
    obtain ⟨bs, r2⟩ := sh_reads I ez sv ry
    refine SeqAt.ne_plain r1 r2 (sh_plain su) (sh_plain sv) ?_ ⟨.bl _, H, I, rfl, opp_v q (.bl _)⟩
    have := room_flat (X := X) (a := a.depth) hr (flatD_of c.2)
    omega
  | lt =>
    cases ho
    exact ord_ok hr ez (fun i j e1 e2 q => by subst e1; subst e2; exact RB.of op_lt ⟨_, _, rfl, rfl, q⟩) (fun _ _ _ _ _ _ _ _ _ _ _ _ ra rb h hn hu hq => W.lt_data ra rb h hn hu hq) su sv h q
  | le =>
    cases ho
    exact ord_ok hr ez (fun i j e1 e2 q => by subst e1; subst e2; exact RB.of op_le ⟨_, _, rfl, rfl, q⟩) (fun _ _ _ _ _ _ _ _ _ _ _ _ ra rb h hn hu hq => W.le_data ra rb h hn hu hq) su sv h q
  | gt =>
    cases ho
    exact ord_ok hr ez (fun i j e1 e2 q => by subst e1; subst e2; exact RB.of op_gt ⟨_, _, rfl, rfl, q⟩) (fun _ _ _ _ _ _ _ _ _ _ _ _ ra rb h hn hu hq => W.gt_data ra rb h hn hu hq) su sv h q
  | ge =>
    cases ho
    exact ord_ok hr ez (fun i j e1 e2 q => by subst e1; subst e2; exact RB.of op_ge ⟨_, _, rfl, rfl, q⟩) (fun _ _ _ _ _ _ _ _ _ _ _ _ ra rb h hn hu hq => W.ge_data ra rb h hn hu hq) su sv h q
  | inn =>
    cases ho
    cases b with
    | list xs =>
      obtain ⟨c, rfl⟩ := itesome (show (if flatD a = true then _ else none) = some r from h)
      exact in_ok (neg := false) hr ez (.inl rfl) su sv c (by simpa using opp_v q (.bl _))
    | tuple xs =>
      obtain ⟨c, rfl⟩ := itesome (show (if flatD a = true then _ else none) = some r from h)
      exact in_ok (neg := false) hr ez (.inr rfl) su sv c (by simpa using opp_v q (.bl _))
    | _ => cases h
  | nin =>
    cases ho
    cases b with
    | list xs =>
      obtain ⟨c, rfl⟩ := itesome (show (if flatD a = true then _ else none) = some r from h)
      exact in_ok (neg := true) hr ez (.inl rfl) su sv c (by simpa using opp_v q (.bl _))
    | tuple xs =>
      obtain ⟨c, rfl⟩ := itesome (show (if flatD a = true then _ else none) = some r from h)
      exact in_ok (neg := true) hr ez (.inr rfl) su sv c (by simpa using opp_v q (.bl _))
    | _ => cases h
  | _ => cases ho
end
end PL

/-! part PLSnd1 -/
set_option Elab.async false
set_option linter.all false
set_option autoImplicit false
set_option maxRecDepth 100000
set_option maxHeartbeats 4000000
/-! the evaluator's results as readings -/
namespace PL
open PySem PySem.Spec PyProof.Rows L2

/-- what a def of a program needs of the rest: the tables' list, the callees, the constants, the exceptions -/
structure Lk where
  T : Tb
  ft : FT
  gl : List PyData
  fuel : Nat
  fnm : List Str
  gnm : List Str
  xc : List (Addr × Str)
  kws : List (Nat × List Str × List Nat)
  tl : List Str := []

section
variable (L : Lk) (K : PySem.W.Frag) (Ew : XK) (σ : St)
/-- the outcome reaches P -/
def Post {α : Type} (Z H : Hp) (env : En) (P : α → En → Hp → Hp → Prop) : Out α → Prop
  | .ok a e1 => ∀ Z1 H1, Stp K L.T σ Z H env Z1 H1 e1 → P a e1 Z1 H1
  | .exc c s e1 => ∀ Z1 H1, Stp K L.T σ Z H env Z1 H1 e1 → ∀ C fld dd, L.xc[c]? = some (C, fld) → H1 dd = some (.xd [(fld, .str s)]) → Ew (.ref C) (some dd) H1
  | .bad => False
end
section
variable {L : Lk} {K : PySem.W.Frag} {Ew : XK} {σ : St} {Z H Z1 H1 Z2 H2 : Hp} {env e1 e2 : En} {α β : Type}
theorem Post.step {P : α → En → Hp → Hp → Prop} {o : Out α} (h : Post L K Ew σ Z H env P o) (s : Stp K L.T σ Z H env Z1 H1 e1) : Post L K Ew σ Z1 H1 e1 P o := by
  cases o with
  | ok a e => exact fun Z2 H2 s2 => h Z2 H2 (s.trans s2)
  | exc c x e => exact fun Z2 H2 s2 => h Z2 H2 (s.trans s2)
  | bad => exact h
theorem Post.bind {P : β → En → Hp → Hp → Prop} {P' : α → En → Hp → Hp → Prop} {o : Out α} {f : α → En → Out β} (h : Post L K Ew σ Z H env P (o.bind f))
    (k : ∀ a e1 Z1 H1, Stp K L.T σ Z H env Z1 H1 e1 → Post L K Ew σ Z H env P (f a e1) → P' a e1 Z1 H1) : Post L K Ew σ Z H env P' o := by
  cases o with
  | ok a e => exact fun Z1 H1 s => k a e Z1 H1 s h
  | exc c x e => exact h
  | bad => exact h
theorem Post.imp {P P' : α → En → Hp → Hp → Prop} {o : Out α} (h : Post L K Ew σ Z H env P o)
    (k : ∀ a e1 Z1 H1, Stp K L.T σ Z H env Z1 H1 e1 → P a e1 Z1 H1 → P' a e1 Z1 H1) : Post L K Ew σ Z H env P' o := by
  cases o with
  | ok a e => exact fun Z1 H1 s => k a e Z1 H1 s (h Z1 H1 s)
  | exc c x e => exact h
  | bad => exact h
theorem Post.lift {P : α → En → Hp → Hp → Prop} {o : Option α} (h : Post L K Ew σ Z H env P (.lift o e1)) : ∃ a, o = some a ∧ ∀ Z1 H1, Stp K L.T σ Z H env Z1 H1 e1 → P a e1 Z1 H1 := by
  cases o with
  | none => exact h.elim
  | some a => exact ⟨a, rfl, h⟩
end

section
variable (L : Lk) (K : PySem.W.Frag) (Ew : XK)
/-- the reading of an expression -/
def PG1 (H : Hp) (Q : VK) : RV → En → Hp → Hp → Prop := fun r _ Z1 H1 => ∀ u, Got K H Z1 H1 r u → Q u H1
def tR (f : En → Out RV) : TE := fun σ H Q => ∃ Z env, RE K L.T Z H env σ ∧ Post L K Ew σ Z H env (PG1 K H Q) (f env)
def tE (e : E) : TE := tR L K Ew (evE L.ft L.gl e)
/-- a test's -/
def tT (f : En → Out Bool) : TT := fun σ H Q => ∃ Z env, RE K L.T Z H env σ ∧ Post L K Ew σ Z H env (fun b _ _ H1 => Q b H1) (f env)
/-- what an operand holds -/
def GotO (σ : St) (H Z1 H1 : Hp) : O → Option RV → V → Prop
  | .e _, some r, u => Got K H Z1 H1 r u
  | .b i, none, u => sg σ i = some u
  | _, _, _ => False
def tO (o : O) : TE := fun σ H Q => ∃ Z env, RE K L.T Z H env σ ∧ Post L K Ew σ Z H env (fun r _ Z1 H1 => ∀ u, GotO K σ H Z1 H1 o r u → Q u H1) (evO L.ft L.gl o env)
/-- values of an argument list -/
def tEs (es : Es) : TA := fun σ H Q => ∃ Z env, RE K L.T Z H env σ ∧ Post L K Ew σ Z H env (fun ds _ Z1 H1 => ∀ us, DpAll K Z1 us ds → Q us H1) (evEs L.ft L.gl es env)
def tS (e : SE) : L2.TO := fun σ H Q => ∃ Z env, RE K L.T Z H env σ ∧ Post L K Ew σ Z H env (fun i _ _ H1 => Q i H1) (evS L.ft L.gl e env)
end

/-! ### readings weakened -/
section
variable {X : Cx}
theorem peImp {e : Expr} {t t' : TE} (h : PE X e t) (k : ∀ σ H Q, t' σ H Q → t σ H Q) : PE X e t' := ⟨fun pins s σ H Q I q => h.run pins s σ H Q I (k σ H Q q)⟩
theorem ptImp {e : Expr} {t t' : TT} (h : PT X e t) (k : ∀ σ H Q, t' σ H Q → t σ H Q) : PT X e t' := ⟨fun pins s σ H Q I q => h.run pins s σ H Q I (k σ H Q q)⟩
theorem pwImp {e : Expr} {t t' : TT} (h : PW X e t) (k : ∀ σ H Q, t' σ H Q → t σ H Q) : PW X e t' := ⟨fun whole pins s σ H Q I q => h.run whole pins s σ H Q I (k σ H Q q)⟩
theorem paImp {e : List Expr} {t t' : TA} (h : PA X e t) (k : ∀ σ H Q, t' σ H Q → t σ H Q) : PA X e t' := ⟨fun pos pins s σ H Q I q => h.run pos pins s σ H Q I (k σ H Q q)⟩
theorem psImp {e : Stmt} {t t' : TS} (h : PS X e t) (k : ∀ D σ H, t' D σ H → t D σ H) : PS X e t' := ⟨fun pins s σ H D I q => h.run pins s σ H D I (k D σ H q)⟩
theorem pssImp {e : List Stmt} {t t' : TS} (h : PSs X e t) (k : ∀ D σ H, t' D σ H → t D σ H) : PSs X e t' := ⟨fun pins s σ H D I q => h.run pins s σ H D I (k D σ H q)⟩
end

/-! ### what is held while more is evaluated -/
section
variable {L : Lk} {K : PySem.W.Frag} {Ew : XK} {σ : St} {Z H Z1 H1 Z2 H2 : Hp} {env e1 e2 : En} {Q : VK}
/-- an operand that is kept -/
def Hold (K : PySem.W.Frag) (σ : St) (Z : Hp) : O → Option RV → V → Prop
  | .e _, some r, u => Dp K Z u r.d
  | .b i, none, u => sg σ i = some u
  | _, _, _ => False
theorem Hold.mono {o : O} {r : Option RV} {u : V} (e : Ex Z1 Z2) (h : Hold K σ Z1 o r u) : Hold K σ Z2 o r u := by
  cases o with
  | e x =>
    cases r with
    | none => exact h
    | some r => exact dp_mono e _ h
  | b i =>
    cases r with
    | none => exact h
    | some r => exact h
theorem Hold.of (r0 : RE K L.T Z H env σ) (s : Stp K L.T σ Z H env Z1 H1 e1) {o : O} {r : Option RV} {u : V} (g : GotO K σ H Z1 H1 o r u) : ∃ Z2, Stp K L.T σ Z H env Z2 H1 e1 ∧ Hold K σ Z2 o r u := by
  cases o with
  | e x =>
    cases r with
    | none => exact g.elim
    | some r => exact s.toV r0 g
  | b i =>
    cases r with
    | none => exact ⟨Z1, s, g⟩
    | some r => exact g.elim
theorem Hold.sh (r : RE K L.T Z H env σ) {o : O} {x : Option RV} {u : V} (h : Hold K σ Z o x u) {d : PyData} (e : rsO o x env = some d) : Sh K Z H u d := by
  cases o with
  | e y =>
    cases x with
    | none => cases e
    | some q =>
      cases e
      exact Sh.of r.ex h
  | b i =>
    cases x with
    | none =>
      obtain ⟨u', e1, e2⟩ := r.rdB (show rdB i env = some d from e)
      have h' : sg σ i = some u := h
      rw [e1] at h'
      cases h'
      exact e2
    | some q => exact h.elim
/-- what an operation leads to -/
theorem opp_of (s : Stp K L.T σ Z H env Z2 H2 e2) {r : RV} (h : ∀ Z3 H3, Stp K L.T σ Z H env Z3 H3 e2 → PG1 K H Q r e2 Z3 H3) : OpPost K Z2 H2 Q r := by
  cases r with
  | v d => exact ⟨fun v hv => h Z2 H2 s v hv, fun p o v hp hn ht hv => h _ _ (s.trans (Stp.newZ s.re hp hn ht)) v hv⟩
  | l xs =>
    refine fun p us hp da => h _ _ (s.trans (Stp.new s.re hp)) (.ref p) ⟨p, us, rfl, ?_, upd_same, s.re.ex.free hp, da⟩
    cases q : H p with
    | none => rfl
    | some o => exact absurd hp (s.mv.dm p (by rw [q]; simp))
end
end PL

/-! part PLSnd2 -/
set_option Elab.async false
set_option linter.all false
set_option autoImplicit false
set_option maxRecDepth 100000
set_option maxHeartbeats 4000000
/-! the shapes of expressions; operations of one operand -/
namespace PL
open PySem PySem.Spec PyProof.Rows L2

def notStar : Expr → Bool
  | .Starred _ _ => false
  | _ => true
theorem star_cons {e : Expr} {es : List Expr} {env : Env} (h : notStar e = true) : starEach (e :: es) env = (false, eval e env) :: starEach es env := by
  cases e <;> first | rfl | cases h
theorem star_nil {env : Env} : starEach [] env = [] := rfl
theorem star_any {env : Env} {pos : Pos} : ∀ {es : List Expr}, es.all notStar = true → (backTo pos (starEach es env)).any (·.1) = false
  | [], _ => rfl
  | e :: es, h => by
    rw [List.all_cons, Bool.and_eq_true] at h
    rw [star_cons h.1]
    show (false || (backTo pos (starEach es env)).any (·.1)) = false
    rw [star_any h.2]
    rfl
def isGl (sc : Scope) (x : Str) : Bool := match sc.names.lookup x with
  | some .globalImplicit => true
  | _ => false
theorem gl_of {X : Cx} {x : Str} (h : isGl X.env.scope x = true) : Gl X x := by
  unfold isGl at h
  show X.env.scope.names.lookup x = some .globalImplicit
  split at h
  · assumption
  · cases h
def isVis (sc : Scope) (x : Str) : Bool := match sc.names.lookup x with
  | some .local => true
  | some .cell => true
  | some .free => true
  | _ => false
theorem vis_of {X : Cx} {x : Str} (h : isVis X.env.scope x = true) : Vis X.env.scope x := by
  unfold isVis at h
  unfold Vis
  split at h
  · exact .inl (by assumption)
  · exact .inr (.inl (by assumption))
  · exact .inr (.inr (by assumption))
  · cases h
def o1name : Op1 → Option Str
  | .abs => some "abs"
  | .int1 => some "int"
  | .len => some "len"
  | .sum => some "sum"
  | .max => some "max"
  | .min => some "min"
  | .all => some "all"
  | .any => some "any"
  | .tuple => some "tuple"
  | .list => some "list"
  | .sorted => some "sorted"
  | _ => none
def tyname : Ty → Str
  | .int => "int"
  | .bool => "bool"
  | .tuple => "tuple"
  | .str => "str"
  | .list => "list"
def arg1 (sc : Scope) : Op1 → Expr → Option Expr
  | .neg, .UnaryOp .USub a _ => some a
  | .isN, .Compare a [.Is] [.Constant .none _ _] _ => some a
  | .notN, .Compare a [.IsNot] [.Constant .none _ _] _ => some a
  | .isF, .Compare a [.Is] [.Constant (.bool false) _ _] _ => some a
  | .notF, .Compare a [.IsNot] [.Constant (.bool false) _ _] _ => some a
  | .rev, .Subscript a (.Slice none none (some (.UnaryOp .USub (.Constant (.int 1) _ _) _)) _) _ => some a
  | .inst t, .Call (.Name x _) [a, .Name y _] [] _ => if decide (x = "isinstance") && isGl sc x && decide (y = tyname t) && isGl sc y && notStar a then some a else none
  | o, .Call (.Name x _) [a] [] _ => if decide (o1name o = some x) && isGl sc x && notStar a then some a else none
  | _, _ => none
def bltNames : List Str := ["abs", "int", "len", "sum", "max", "min", "all", "any", "tuple", "list", "sorted", "isinstance", "bool", "str", "range", "enumerate", "zip", "set"]

def R1 (K : PySem.W.Frag) (o : Op1) : V → Hp → VK → Prop := fun u H Q => ∃ Z d r, Ex Z H ∧ Sh K Z H u d ∧ sem1 o d = some r ∧ OpPost K Z H Q r
def R1s (K : PySem.W.Frag) (o : Op1) : List V → Hp → VK → Prop := fun us H Q => match us with
  | [u] => R1 K o u H Q
  | _ => False
def R1n (K : PySem.W.Frag) (o : Op1) : R2 := fun u v H Q => match v with
  | .non => R1 K o u H Q
  | _ => False
def R1b (K : PySem.W.Frag) (o : Op1) : R2 := fun u v H Q => match v with
  | .bl false => R1 K o u H Q
  | _ => False
def R1t (K : PySem.W.Frag) (o : Op1) (T : String) : List V → Hp → VK → Prop := fun us H Q => match us with
  | [u, .ty n] => n = T ∧ R1 K o u H Q
  | _ => False
section
variable {X : Cx} {k : Nat}
theorem r1_call (hr : Room k X.A) (hc : X.calm = true) {o : Op1} {f : Value} (hf : op1f o = some f) : CallR X f (R1s X.K o) := fun pins s σ H xs us Q I r h => by
  match xs, h with
  | [u], ⟨Z, d, r', ez, sh, e, q⟩ => exact op1_ok hr hc ez hf sh e q pins s σ us I r
theorem r1_neg : UnR X (unaryOp .USub) (R1 X.K .neg) := fun pins s σ H x v Q I r h => by
  obtain ⟨Z, d, r', ez, sh, e, q⟩ := h
  cases d with
  | int i =>
    cases e
    obtain rfl := dp_int sh
    exact un_neg pins s σ H _ v Q I r ⟨i, rfl, opp_v q (.int _)⟩
  | _ => cases e
theorem dec_non {Z H : Hp} {u : V} {d : PyData} (sh : Sh X.K Z H u d) : decide (u = .non) = isNone d := by
  cases d with
  | none => obtain rfl := dp_none sh; rfl
  | list xs => obtain ⟨a, us, rfl, _⟩ := sh; rfl
  | tuple xs => cases (show Dp X.K Z u _ from sh); rfl
  | bool b => obtain rfl := dp_bool sh; rfl
  | int b => obtain rfl := dp_int sh; rfl
  | str b => obtain rfl := dp_str sh; rfl
  | dict b => cases (show Dp X.K Z u _ from sh)
theorem r1_isN : OpR X (compareOp .Is) (R1n X.K .isN) := fun pins s σ H x y v u Q I rx ry h => by
  cases y with
  | non =>
    obtain ⟨Z, d, r', ez, sh, e, q⟩ := h
    cases e
    refine op_isN pins s σ H x _ v u Q I rx ry ⟨rfl, ?_⟩
    rw [dec_non sh]
    exact opp_v q (.bl _)
  | _ => exact h.elim
theorem r1_notN : OpR X (compareOp .IsNot) (R1n X.K .notN) := fun pins s σ H x y v u Q I rx ry h => by
  cases y with
  | non =>
    obtain ⟨Z, d, r', ez, sh, e, q⟩ := h
    cases e
    refine op_notN pins s σ H x _ v u Q I rx ry ⟨rfl, ?_⟩
    rw [dec_non sh]
    exact opp_v q (.bl _)
  | _ => exact h.elim
theorem r1_isF : OpR X (compareOp .Is) (R1b X.K .isF) := fun pins s σ H x y v u Q I rx ry h => by
  cases y with
  | bl b =>
    cases b with
    | true => exact h.elim
    | false =>
      obtain ⟨Z, d, r', ez, sh, e, q⟩ := h
      cases d with
      | bool c =>
        cases e
        obtain rfl := dp_bool sh
        refine op_isBl pins s σ H _ _ v u Q I rx ry ⟨c, false, rfl, rfl, ?_⟩
        have : decide (c = false) = !c := by cases c <;> rfl
        rw [this]
        exact opp_v q (.bl _)
      | _ => cases e
  | _ => exact h.elim
theorem r1_notF : OpR X (compareOp .IsNot) (R1b X.K .notF) := fun pins s σ H x y v u Q I rx ry h => by
  cases y with
  | bl b =>
    cases b with
    | true => exact h.elim
    | false =>
      obtain ⟨Z, d, r', ez, sh, e, q⟩ := h
      cases d with
      | bool c =>
        cases e
        obtain rfl := dp_bool sh
        refine op_notBl pins s σ H _ _ v u Q I rx ry ⟨c, false, rfl, rfl, ?_⟩
        have : (!decide (c = false)) = c := by cases c <;> rfl
        rw [this]
        exact opp_v q (.bl _)
      | _ => cases e
  | _ => exact h.elim
def tyStr : Ty → String
  | .int => "int"
  | .bool => "bool"
  | .tuple => "tuple"
  | .str => "str"
  | .list => "list"
theorem r1_inst {t : Ty} : CallR X (.builtin "isinstance") (R1t X.K (.inst t) (tyStr t)) := fun pins s σ H xs us Q I r h => by
  match xs, h with
  | [u, .ty n], ⟨hn, Z, d, r', ez, sh, e, q⟩ =>
    subst hn
    cases e
    obtain ⟨a, b, rfl, ra, rb⟩ := vals2 r
    cases rb
    obtain ⟨as, rd⟩ := sh_reads I ez sh ra
    have := tyv_of (Q := EP X pins σ Q) (E := X.xe) (A := X.A) (prog := X.prog) (w := X.w) (t := t) rd fun tk => ⟨.bl (tyIs t d), H, I.tok _, rfl, opp_v q (.bl _)⟩
    cases t <;> exact this
/-- t[::-1] of a tuple or a list -/
theorem rev_pe {e : Expr} {te : TE} {k : Nat} {p1 p2 p3 pos : Pos} (he : PE X e te) : PE X (.Subscript e (.Slice none none (some (.UnaryOp .USub (.Constant (.int 1) k p1) p2)) p3) pos) (fun σ H Q => te σ H fun x H1 => ∃ a xs, x = .ref a ∧ SqL X.K H1 a xs ∧ ∀ p, H1 p = none → Q (.ref p) (upd H1 p (.lst xs.reverse))) := pe_revL he
end

/-- what the block knows of the rest -/
structure Cq (L : Lk) (CX : CXT) (k : Nat) (Ew : XK) (N : List Str) (sc : Scope) (X : Cx) : Prop where
  sc : X.env.scope = sc
  N : X.N = N
  calm : X.calm = true
  room : Room k X.A
  nd : X.N.Nodup
  pass : Passes CX X Ew
  cx0 : ∀ l H s e s', ¬ CX l H s (fun _ _ _ => False) e s'
  blt : ∀ x ∈ bltNames, X.mg x = none
  gl : ∀ (j : Nat) (x : Str) (d : PyData), L.gnm[j]? = some x → L.gl[j]? = some d → (x == ("__debug__" : Str)) = false ∧ ∃ v u, X.mg x = some u ∧ RelV v u ∧ ∀ Z, Dp X.K Z v d
  tk : ∀ a o, X.K.lookup a = some o → o.cls = .type "tuple" → o.dict = none
section
variable {L : Lk} {CX : CXT} {k : Nat} {Ew : XK} {N : List Str} {sc : Scope} {X : Cx} {a e : Expr} {ta : TE}
theorem blt_in {x : Str} (h : bltNames.contains x = true) : x ∈ bltNames := List.contains_iff_mem.mp h
theorem call1_pe (c : Cq L CX k Ew N sc X) {o : Op1} {x : Str} {f : Value} {p pos : Pos} (g : isGl sc x = true) (ns : notStar a = true) (ha : PE X a ta) (hv : bootBuiltins x = some f) (hf : op1f o = some f) (hb : x ∈ bltNames)
    (hn : x ≠ "__name__") (hd : (x == ("__debug__" : Str)) = false) : PE X (.Call (.Name x p) [a] [] pos) (tUn (R1 X.K o) ta) := by
  have hg : Gl X x := gl_of (by rw [c.sc]; exact g)
  have hm := c.blt x hb
  have hcr := r1_call (X := X) c.room c.calm hf
  have pa : PA X [a] (tCons ta tNil) := pa_cons ha pa_nil (star_cons ns)
  cases f with
  | builtin id => exact peImp (pe_callB hcr hg hm hv pa hn hd (star_cons ns) rfl) fun σ H Q h => h
  | type T => exact peImp (pe_callTy hcr hg hm hv pa hn hd (star_cons ns) rfl) fun σ H Q h => h
  | _ => cases o <;> cases hf
theorem o1_table {o : Op1} {x : Str} (h : o1name o = some x) : ∃ f, bootBuiltins x = some f ∧ op1f o = some f ∧ x ∈ bltNames ∧ x ≠ "__name__" ∧ (x == ("__debug__" : Str)) = false := by
  cases o with
  | abs => cases h; exact ⟨.builtin "abs", by rfl, rfl, blt_in (by decide), by decide, by decide⟩
  | int1 => cases h; exact ⟨.type "int", by rfl, rfl, blt_in (by decide), by decide, by decide⟩
  | len => cases h; exact ⟨.builtin "len", by rfl, rfl, blt_in (by decide), by decide, by decide⟩
  | sum => cases h; exact ⟨.builtin "sum", by rfl, rfl, blt_in (by decide), by decide, by decide⟩
  | max => cases h; exact ⟨.builtin "max", by rfl, rfl, blt_in (by decide), by decide, by decide⟩
  | min => cases h; exact ⟨.builtin "min", by rfl, rfl, blt_in (by decide), by decide, by decide⟩
  | all => cases h; exact ⟨.builtin "all", by rfl, rfl, blt_in (by decide), by decide, by decide⟩
  | any => cases h; exact ⟨.builtin "any", by rfl, rfl, blt_in (by decide), by decide, by decide⟩
  | tuple => cases h; exact ⟨.type "tuple", by rfl, rfl, blt_in (by decide), by decide, by decide⟩
  | list => cases h; exact ⟨.type "list", by rfl, rfl, blt_in (by decide), by decide, by decide⟩
  | sorted => cases h; exact ⟨.builtin "sorted", by rfl, rfl, blt_in (by decide), by decide, by decide⟩
  | _ => cases h
theorem op1_pe (c : Cq L CX k Ew N sc X) {o : Op1} (h : arg1 sc o e = some a) (ho : o ≠ .rev) (ha : PE X a ta) : PE X e (tUn (R1 X.K o) ta) := by
  unfold arg1 at h
  split at h
  · cases h
    exact pe_un r1_neg ha
  · cases h
    exact peImp (pe_cmpR r1_isN ha pe_non (nomark _)) fun σ H Q h => h
  · cases h
    exact peImp (pe_cmpR r1_notN ha pe_non (nomark _)) fun σ H Q h => h
  · cases h
    exact peImp (pe_cmpR r1_isF ha pe_bl (nomark _)) fun σ H Q h => h
  · cases h
    exact peImp (pe_cmpR r1_notF ha pe_bl (nomark _)) fun σ H Q h => h
  · exact absurd rfl ho
  · rename_i t x p a' y p' pos
    obtain ⟨z, e⟩ := itesome h
    subst e
    simp only [Bool.and_eq_true, decide_eq_true_eq] at z
    obtain ⟨⟨⟨⟨rfl, g⟩, rfl⟩, g2⟩, ns⟩ := z
    have hg : Gl X "isinstance" := gl_of (by rw [c.sc]; exact g)
    have hg2 : Gl X (tyname t) := gl_of (by rw [c.sc]; exact g2)
    have pt : PE X (.Name (tyname t) p') (tC (.ty (tyStr t))) := by
      cases t <;> exact pe_bltn hg2 (c.blt _ (blt_in (by decide))) (by rfl) rfl (by decide) (by decide)
    have pa : PA X [a', .Name (tyname t) p'] (tCons ta (tCons (tC (.ty (tyStr t))) tNil)) := pa_cons ha (pa_cons pt pa_nil) (star_cons ns)
    exact peImp (pe_callB (r1_inst (t := t)) hg (c.blt _ (blt_in (by decide))) (by rfl) pa (by decide) (by decide) (star_cons ns) rfl) fun σ H Q h => by
      show ta σ H _
      have : (fun u H => R1t X.K (.inst t) (tyStr t) [u, .ty (tyStr t)] H Q) = fun u H => R1 X.K (.inst t) u H Q := by
        funext u H
        exact propext ⟨fun z => z.2, fun z => ⟨rfl, z⟩⟩
      show ta σ H (fun u H => R1t X.K (.inst t) (tyStr t) [u, .ty (tyStr t)] H Q)
      rw [this]
      exact h
  · rename_i o x p a1 pos _
    obtain ⟨z, e⟩ := itesome h
    subst e
    simp only [Bool.and_eq_true, decide_eq_true_eq] at z
    obtain ⟨⟨n, g⟩, ns⟩ := z
    obtain ⟨f, f1, f2, f3, f4, f5⟩ := o1_table n
    exact call1_pe c g ns ha f1 f2 f3 f4 f5
  · cases h
end
end PL

/-! part PLSnd3 -/
set_option Elab.async false
set_option linter.all false
set_option autoImplicit false
set_option maxRecDepth 100000
set_option maxHeartbeats 4000000
/-! operations of two operands, slices, methods -/
namespace PL
open PySem PySem.Spec PyProof.Rows L2

def notSlice : Expr → Bool
  | .Slice _ _ _ _ => false
  | _ => true
theorem plainIx {e : Expr} (h : notSlice e = true) : PlainIx e := fun o i => by
  cases e <;> first | rfl | cases h
def arg2 (sc : Scope) : Op2 → Expr → Option (Expr × Expr)
  | o, .BinOp a op b _ => if decide (op2o o = some op) then some (a, b) else none
  | o, .Compare a [op] [b] _ => if decide (op2c o = some op) && !behindInMarks op b then some (a, b) else none
  | .ix, .Subscript a b _ => if notSlice b then some (a, b) else none
  | .max2, .Call (.Name x _) [a, b] [] _ => if decide (x = "max") && isGl sc x && notStar a && notStar b then some (a, b) else none
  | .min2, .Call (.Name x _) [a, b] [] _ => if decide (x = "min") && isGl sc x && notStar a && notStar b then some (a, b) else none
  | _, _ => none
def R2v (K : PySem.W.Frag) (o : Op2) : R2 := fun u v H Q => ∃ Z a b r, Ex Z H ∧ Sh K Z H u a ∧ Sh K Z H v b ∧ sem2 o a b = some r ∧ OpPost K Z H Q r
def R2s (K : PySem.W.Frag) (o : Op2) : List V → Hp → VK → Prop := fun us H Q => match us with
  | [u, v] => R2v K o u v H Q
  | _ => False
section
variable {X : Cx} {k : Nat}
theorem r2_bin (hr : Room k X.A) {o : Op2} {op : Operator} (ho : op2o o = some op) : OpR X (binaryOp op) (R2v X.K o) := fun pins s σ H x y v u Q I rx ry h => by
  obtain ⟨Z, a, b, r, ez, sa, sb, e, q⟩ := h
  exact bin_ok hr ez ho sa sb e q pins s σ v u I rx ry
theorem r2_cmp (hr : Room k X.A) {o : Op2} {op : CmpOp} (ho : op2c o = some op) : OpR X (compareOp op) (R2v X.K o) := fun pins s σ H x y v u Q I rx ry h => by
  obtain ⟨Z, a, b, r, ez, sa, sb, e, q⟩ := h
  exact cmp_ok hr ez ho sa sb e q pins s σ v u I rx ry
theorem atI_dpa {K : PySem.W.Frag} {Z : Hp} {us : List V} {ds : List PyData} {i : Int} {d : PyData} (da : DpAll K Z us ds) (h : L2.atI ds i = some d) : ∃ u, L2.atI us i = some u ∧ Dp K Z u d := by
  unfold L2.atI at h ⊢
  rw [dpa_len da]
  cases e : L2.ixN ds.length i with
  | none => rw [e] at h; cases h
  | some j =>
    rw [e] at h
    obtain ⟨u, e1, e2⟩ := dpa_at j da (show ds[j]? = some d from h)
    exact ⟨u, e1, e2⟩
theorem r2_ix : IxR X (R2v X.K .ix) := fun value slice pins s σ H x y v u Q I rx ry h hs => by
  obtain ⟨Z, a, b, r, ez, sa, sb, e, q⟩ := h
  cases b with
  | int i =>
    obtain rfl := dp_int sb
    cases a with
    | list xs =>
      obtain ⟨d, e1, rfl⟩ := optmap (show (L2.atI xs i).map _ = some r from e)
      obtain ⟨p, us, rfl, hs', da⟩ := sa
      obtain ⟨w', e2, hd⟩ := atI_dpa da e1
      exact ix_seq value slice pins s σ H _ _ v u Q I rx ry (.inl ⟨p, us, i, w', rfl, rfl, hs', e2, opp_v q hd⟩) hs
    | tuple xs =>
      obtain ⟨d, e1, rfl⟩ := optmap (show (L2.atI xs i).map _ = some r from e)
      obtain ⟨p, us, rfl, hs', da⟩ := sa.tup ez
      obtain ⟨w', e2, hd⟩ := atI_dpa da e1
      exact ix_seq value slice pins s σ H _ _ v u Q I rx ry (.inr (.inl ⟨p, us, i, w', rfl, rfl, hs', e2, opp_v q hd⟩)) hs
    | _ => cases e
  | _ => cases a <;> cases e
theorem r2_max (hc : X.calm = true) : CallR X (.builtin "max") (R2s X.K .max2) := fun pins s σ H xs us Q I r h => by
  match xs, h with
  | [u, v], ⟨Z, a, b, r', ez, sa, sb, e, q⟩ =>
    cases a with
    | int i =>
      cases b with
      | int j =>
        cases e
        obtain rfl := dp_int sa
        obtain rfl := dp_int sb
        exact call_max2 hc pins s σ H _ us Q I r ⟨i, j, rfl, opp_v q (.int _)⟩
      | _ => cases e
    | _ => cases e
theorem r2_min (hc : X.calm = true) : CallR X (.builtin "min") (R2s X.K .min2) := fun pins s σ H xs us Q I r h => by
  match xs, h with
  | [u, v], ⟨Z, a, b, r', ez, sa, sb, e, q⟩ =>
    cases a with
    | int i =>
      cases b with
      | int j =>
        cases e
        obtain rfl := dp_int sa
        obtain rfl := dp_int sb
        exact call_min2 hc pins s σ H _ us Q I r ⟨i, j, rfl, opp_v q (.int _)⟩
      | _ => cases e
    | _ => cases e
end
section
variable {L : Lk} {CX : CXT} {k : Nat} {Ew : XK} {N : List Str} {sc : Scope} {X : Cx} {a b e : Expr} {ta tb : TE}
theorem pa2 (na : notStar a = true) (nb : notStar b = true) (ha : PE X a ta) (hb : PE X b tb) : PA X [a, b] (tCons ta (tCons tb tNil)) := pa_cons ha (pa_cons hb pa_nil (star_cons nb)) (star_cons na)
theorem op2_pe (c : Cq L CX k Ew N sc X) {o : Op2} (h : arg2 sc o e = some (a, b)) (ha : PE X a ta) (hb : PE X b tb) : PE X e (tOp (R2v X.K o) ta tb) := by
  unfold arg2 at h
  split at h
  · obtain ⟨z, e⟩ := itesome h
    cases e
    exact pe_op (r2_bin c.room (of_decide_eq_true z)) ha hb
  · obtain ⟨z, e⟩ := itesome h
    cases e
    simp only [Bool.and_eq_true, decide_eq_true_eq, Bool.not_eq_true'] at z
    exact pe_cmpR (r2_cmp c.room z.1) ha hb z.2
  · obtain ⟨z, e⟩ := itesome h
    cases e
    exact pe_ix r2_ix ha hb (plainIx z)
  · obtain ⟨z, e⟩ := itesome h
    cases e
    simp only [Bool.and_eq_true, decide_eq_true_eq] at z
    obtain ⟨⟨⟨rfl, g⟩, n1⟩, n2⟩ := z
    have hg : Gl X "max" := gl_of (by rw [c.sc]; exact g)
    exact peImp (pe_callB (r2_max c.calm) hg (c.blt _ (blt_in (by decide))) (by rfl) (pa2 n1 n2 ha hb) (by decide) (by decide) (star_cons n1) (star_any (by rw [List.all_cons, n2]; rfl))) fun σ H Q h => h
  · obtain ⟨z, e⟩ := itesome h
    cases e
    simp only [Bool.and_eq_true, decide_eq_true_eq] at z
    obtain ⟨⟨⟨rfl, g⟩, n1⟩, n2⟩ := z
    have hg : Gl X "min" := gl_of (by rw [c.sc]; exact g)
    exact peImp (pe_callB (r2_min c.calm) hg (c.blt _ (blt_in (by decide))) (by rfl) (pa2 n1 n2 ha hb) (by decide) (by decide) (star_cons n1) (star_any (by rw [List.all_cons, n2]; rfl))) fun σ H Q h => h
  · cases h
end
/-! ### slices -/
def RSl (K : PySem.W.Frag) : V → Option Int → Option Int → Hp → VK → Prop := fun u lo hi H Q => ∃ Z d r, Ex Z H ∧ Sh K Z H u d ∧ semSl d lo hi = some r ∧ OpPost K Z H Q r
theorem dpa_cut {K : PySem.W.Frag} {Z : Hp} {us : List V} {ds : List PyData} (da : DpAll K Z us ds) (lo hi : Option Int) : DpAll K Z (cutV us lo hi) (cutD ds lo hi) := by
  unfold cutV cutD
  rw [dpa_len da]
  exact dpa_take _ (dpa_drop _ da)
theorem cut_whole {ds : List PyData} {lo hi : Option Int} (h : HT.sIx ds.length 0 lo = 0 ∧ HT.sIx ds.length ds.length hi = ds.length) : cutD ds lo hi = ds := by
  unfold cutD
  rw [h.1, h.2]
  simp
theorem r_sl {X : Cx} : SlR X (RSl X.K) := fun pins s σ H x v vl vu lo hi sl Q I rx hs pl pu h => by
  obtain ⟨Z, d, r, ez, sh, e, q⟩ := h
  cases d with
  | list xs =>
    cases e
    obtain ⟨p, us, rfl, hq, da⟩ := sh
    exact sl_list pins s σ H _ v vl vu lo hi sl Q I rx hs pl pu ⟨p, us, rfl, hq, opp_l q (dpa_cut da lo hi)⟩
  | tuple xs =>
    cases e
    obtain ⟨p, us, its, as, rfl, rfl, ht, rv, da, _, hz, hz2⟩ := sh_tup I ez sh rx
    have n1 := dpa_len da
    have n2 : its.toArray.size = xs.length := by rw [List.size_toArray, hz2]
    refine ⟨"tuple", _, PyProof.Rows.slot_tuple_getitem.lookup, ht.typeIs, ?_⟩
    by_cases hw : HT.sIx xs.length 0 lo = 0 ∧ HT.sIx xs.length xs.length hi = xs.length
    · rw [cut_whole hw] at q
      exact getItem_tuple_whole ht hs pl pu (by rw [n2]; exact hw) ⟨.ref p, H, I, rfl, q.1 _ sh⟩
    · refine HT.getItem_tuple_cut ht hs pl pu (by rw [n2]; exact hw) ?_ (by rw [n2]; exact hz)
      rw [n2, ← n1]
      exact new_tup I q ez ((rv.drop (HT.sIx us.length 0 lo)).take (HT.sIx us.length us.length hi - HT.sIx us.length 0 lo)) (by have := cutV_length us lo hi; unfold cutV at this; omega) (dpa_cut da lo hi)
  | _ => cases e

/-! ### methods of lists that change nothing -/
/-- of a list (tp = false), of a tuple (tp = true) -/
def RMl (K : PySem.W.Frag) (tp : Bool) (o : Op2) : V → List V → Hp → VK → Prop := fun u us H Q => match us with
  | [v] => ∃ Z a b r, isTup a = tp ∧ Ex Z H ∧ Sh K Z H u a ∧ Sh K Z H v b ∧ sem2 o a b = some r ∧ OpPost K Z H Q r
  | _ => False
def o2meth : Op2 → Option Str
  | .index => some "index"
  | .count => some "count"
  | _ => none
section
variable {X : Cx} {k : Nat} {Z H : Hp} {pins : List (Addr × Obj)} {s : Shared} {σ : St}
theorem ix_eqAt (hr : Room k X.A) {us : List V} {its : List Value} {ds : List PyData} {as bs : List Addr} {b : PyData} {x : Value} (rv : Vals us its) (da : DpAll X.K Z us ds) (rd : ReadsAll s.heap its ds as) (rb : Reads s.heap x b bs) (pb : b.plain = true) (c : flatD b = true) :
    ∀ m (hm : m < its.toArray.size), SeqAt.EqAt X.A.in1 s its.toArray[m] x (PyData.eqv (ds.getD m .none) b) := fun m hm => by
  have hm2 : m < its.length := by simpa using hm
  obtain ⟨bs', rd', _, _, _⟩ := PySem.W.readsAll_at rd m its[m] (List.getElem?_eq_getElem hm2)
  have hp : (ds.getD m .none).plain = true := by
    obtain ⟨d', e1, e2⟩ := dpa_atV m da (List.getElem?_eq_getElem (by have := rv.length; omega))
    rw [List.getD_eq_getElem?_getD, e1]
    exact dp_plain _ e2
  have := SeqAt.eqAt_plain (ds.getD m .none) b X.A.in1 s _ _ _ _ rd' rb hp pb (by
    have := room_flat (X := X) (a := (ds.getD m .none).depth) hr (flatD_of c)
    show X.A.units + 1 + _ < _
    omega)
  simpa using this
theorem ix_found {ds : List PyData} {b : PyData} {j : Nat} (e1 : (ds.findIdx? fun z => PyData.eqv z b) = some j) : j < ds.length ∧ PyData.eqv (ds.getD j .none) b = true ∧ ∀ m, m < ds.length → m < j → PyData.eqv (ds.getD m .none) b = false := by
  obtain ⟨h1, h2, h3⟩ := List.findIdx?_eq_some_iff_getElem.mp e1
  refine ⟨h1, ?_, fun m hm hlt => ?_⟩
  · rw [List.getD_eq_getElem?_getD, List.getElem?_eq_getElem h1]
    exact h2
  · rw [List.getD_eq_getElem?_getD, List.getElem?_eq_getElem hm]
    simpa using h3 m hlt
theorem ix_sem {ds : List PyData} {b : PyData} {r : RV} (e' : (if flatD b = true then (ds.findIdx? fun z => PyData.eqv z b).map fun j => RV.v (.int (j : Nat)) else none) = some r) : flatD b = true ∧ ∃ j : Nat, (ds.findIdx? fun z => PyData.eqv z b) = some j ∧ r = RV.v (.int (j : Nat)) := by
  by_cases z : flatD b = true
  · rw [if_pos z] at e'
    obtain ⟨j, h1, h2⟩ := optmap e'
    exact ⟨z, j, h1, h2.symm⟩
  · rw [if_neg z] at e'
    cases e'
end
theorem mt_index {X : Cx} {k : Nat} (hr : Room k X.A) : MtR X "list.index" (RMl X.K false .index) := fun pins s σ H x xs v us Q I rx rs h => by
  match xs, h with
  | [y], ⟨Z, a, b, r, tp, ez, sa, sb, e, q⟩ =>
    cases a with
    | list ds =>
      obtain ⟨c, j, e1, rfl⟩ := ix_sem e
      obtain ⟨p, us', its, as, rfl, rfl, hl, pl, rv, da, rd, hz, hz2⟩ := sh_list I ez sa rx
      obtain ⟨w', rfl, r1⟩ := rs.one
      obtain ⟨bs, rb⟩ := sh_reads I ez sb r1
      obtain ⟨h1, h2, h3⟩ := ix_found e1
      obtain ⟨⟨cls, dd, data, sl⟩, ho, hc, n, hd⟩ := id hl
      simp only at hc hd
      subst hc hd
      exact call_meets PySem.F.slot_list_index ⟨_, ho, rfl⟩ PySem.F.entry_list_index (PySem.F.args_list_index_2 _ _)
        (SeqAt.list_index2_found p its.toArray n dd sl w' (fun m => PyData.eqv (ds.getD m .none) b) j (by rw [List.size_toArray]; omega) (Nat.zero_le _) (by rw [sizeLine_eq] at hz; omega) h2 (fun m hm _ hlt => h3 m (by rw [List.size_toArray] at hm; omega) hlt))
        ⟨ho, ix_eqAt hr rv da rd rb (sh_plain sb) c, .int j, H, I.tok _, ⟨_, rfl⟩, opp_v q (.int _)⟩
    | tuple ds => cases tp
    | _ => cases e
theorem mt_indexT {X : Cx} {k : Nat} (hr : Room k X.A) : MtR X "tuple.index" (RMl X.K true .index) := fun pins s σ H x xs v us Q I rx rs h => by
  match xs, h with
  | [y], ⟨Z, a, b, r, tp, ez, sa, sb, e, q⟩ =>
    cases a with
    | tuple ds =>
      obtain ⟨c, j, e1, rfl⟩ := ix_sem e
      obtain ⟨p, us', its, as, rfl, rfl, hl, rv, da, rd, hz, hz2⟩ := sh_tup I ez sa rx
      obtain ⟨w', rfl, r1⟩ := rs.one
      obtain ⟨bs, rb⟩ := sh_reads I ez sb r1
      obtain ⟨h1, h2, h3⟩ := ix_found e1
      obtain ⟨⟨cls, dd, data, sl⟩, ho, hc, n, hd⟩ := id hl
      simp only at hc hd
      subst hc hd
      exact call_meets PySem.F.slot_tuple_index ⟨_, ho, rfl⟩ PySem.F.entry_tuple_index (PySem.F.args_tuple_index_2 _ _)
        (SeqAt.tuple_index2_found p its.toArray n dd sl w' (fun m => PyData.eqv (ds.getD m .none) b) j (by rw [List.size_toArray]; omega) (Nat.zero_le _) (by rw [List.size_toArray]; omega) h2 (fun m hm _ hlt => h3 m (by rw [List.size_toArray] at hm; omega) hlt))
        ⟨ho, ix_eqAt hr rv da rd rb (sh_plain sb) c, .int j, H, I.tok _, ⟨_, rfl⟩, opp_v q (.int _)⟩
    | list ds => cases tp
    | _ => cases e
theorem mt_count {X : Cx} {k : Nat} (hr : Room k X.A) : MtR X "list.count" (RMl X.K false .count) := fun pins s σ H x xs v us Q I rx rs h => by
  match xs, h with
  | [y], ⟨Z, a, b, r, tp, ez, sa, sb, e, q⟩ =>
    cases a with
    | list ds =>
      obtain ⟨c, rfl⟩ := itesome (show (if flatD b = true then _ else none) = some r from e)
      obtain ⟨p, us', its, as, rfl, rfl, hl, pl, rv, da, rd, hz, hz2⟩ := sh_list I ez sa rx
      obtain ⟨w', rfl, r1⟩ := rs.one
      obtain ⟨bs, rb⟩ := sh_reads I ez sb r1
      exact SeqAt.count_list_data hl rd rb (dpa_plain ds da) (sh_plain sb) (room_flat hr (flatD_of c)) ⟨.int _, H, I.tok _, ⟨_, rfl⟩, opp_v q (.int _)⟩
    | tuple ds => cases tp
    | _ => cases e
theorem mt_countT {X : Cx} {k : Nat} (hr : Room k X.A) : MtR X "tuple.count" (RMl X.K true .count) := fun pins s σ H x xs v us Q I rx rs h => by
  match xs, h with
  | [y], ⟨Z, a, b, r, tp, ez, sa, sb, e, q⟩ =>
    cases a with
    | tuple ds =>
      obtain ⟨c, rfl⟩ := itesome (show (if flatD b = true then _ else none) = some r from e)
      obtain ⟨p, us', its, as, rfl, rfl, hl, rv, da, rd, hz, hz2⟩ := sh_tup I ez sa rx
      obtain ⟨w', rfl, r1⟩ := rs.one
      obtain ⟨bs, rb⟩ := sh_reads I ez sb r1
      exact SeqAt.count_tuple_data hl rd rb (dpa_plain ds da) (sh_plain sb) (room_flat hr (flatD_of c)) ⟨.int _, H, I.tok _, ⟨_, rfl⟩, opp_v q (.int _)⟩
    | list ds => cases tp
    | _ => cases e
/-! ### a method of a list or of a tuple -/
/-- the tuple's object has no dict -/
def TupD (K : PySem.W.Frag) (H : Hp) (x : V) : Prop := ∃ p us, x = .ref p ∧ SqT K H p us ∧ ((∃ ob, H p = some (.frz ob (.tup us)) ∧ ob.dict = none) ∨ ∃ o, K.lookup p = some o ∧ o.dict = none)
theorem tupD_is {X : Cx} {pins : List (Addr × Obj)} {s : Shared} {σ : St} {H : Hp} (I : Inv X pins σ H s) {x : V} {v : Value} (r : RelV x v) (h : TupD X.K H x) : s.TypeIs v "tuple" ∧ ∀ a, v = .ref a → ∃ ob, s.heap.get? a = some ob ∧ ob.dict = none := by
  obtain ⟨p, us, rfl, hs, h⟩ := h
  cases r
  obtain ⟨its, _, it, _⟩ := I.tuple hs
  refine ⟨it.typeIs, fun a e => ?_⟩
  cases e
  rcases h with ⟨ob, h1, h2⟩ | ⟨o, h1, h2⟩
  · exact ⟨ob, (I.hok _ _ h1).1, h2⟩
  · exact ⟨o, I.kIn _ o h1, h2⟩
theorem pe_bm2 {X : Cx} {o e : Expr} {to : TE} {t : TA} {nm : Str} {il it : String} {rl rt : V → List V → Hp → VK → Prop} {ap cp : Pos} (sl : PySem.Slot "list" nm il) (yl : typeOf (.builtin il) = pure (.type "method_descriptor")) (ml : MtR X il rl)
    (st : PySem.Slot "tuple" nm it) (yt : typeOf (.builtin it) = pure (.type "method_descriptor")) (mt : MtR X it rt) (ho : PE X o to) (ha : PA X [e] t) (ns : notStar e = true) (hb : attributeBase o nm X.env (eval o X.env) = eval o X.env) (hl : (ap.endLine == cp.line) = true) :
    PE X (.Call (.Attribute o nm ap) [e] [] cp) fun σ H Q => to σ H fun x H1 => (tyV X.K "list" x H1 ∧ t σ H1 fun xs H2 => rl x xs H2 Q) ∨ (TupD X.K H1 x ∧ t σ H1 fun xs H2 => rt x xs H2 Q) := by
  constructor
  intro pins s σ H Q I h
  have se := star_cons (es := []) (env := X.env) ns
  have fw : ((backTo cp (starEach [e] X.env)).all (fun x => !x.1) && (backToKw cp (keywordEach [] X.env)).all (fun x => x.1.isSome) && decide (([e] : List Expr).length + ([] : List Keyword).length + (if ([] : List Keyword).isEmpty then 0 else 1) < 30)) = true := by
    rw [se]
    rfl
  refine wpAny_Call_method_late hb fw hl rfl (thn (ho.run pins s σ H _ I h) ?_)
  rintro v s1 ⟨x, H1, I1, r1, q⟩
  rcases q with ⟨ty, q⟩ | ⟨ty, q⟩
  · obtain ⟨h1, h2⟩ := tyV_is I1 r1 ty
    have hA := ha.run cp pins s1 σ H1 _ I1 q
    refine ⟨"list", il, PySem.F.plainAttrs_list, sl, yl, h1, h2, ?_⟩
    rw [se] at hA ⊢
    exact Calls.callWith_builtin rfl (Calls.evalArgs_plain (thn hA fun us s2 ⟨vs, H2, I2, r2, q2⟩ => ml pins s2 σ H2 x vs v us Q I2 r1 r2 q2))
  · obtain ⟨h1, h2⟩ := tupD_is I1 r1 ty
    have hA := ha.run cp pins s1 σ H1 _ I1 q
    refine ⟨"tuple", it, PySem.F.plainAttrs_tuple, st, yt, h1, h2, ?_⟩
    rw [se] at hA ⊢
    exact Calls.callWith_builtin rfl (Calls.evalArgs_plain (thn hA fun us s2 ⟨vs, H2, I2, r2, q2⟩ => mt pins s2 σ H2 x vs v us Q I2 r1 r2 q2))
end PL

/-! part PLSnd4 -/
set_option Elab.async false
set_option linter.all false
set_option autoImplicit false
set_option maxRecDepth 100000
set_option maxHeartbeats 4000000
/-! what each form's result is worth -/
namespace PL
open PySem PySem.Spec PyProof.Rows L2

theorem opp_of' {L : Lk} {K : PySem.W.Frag} {σ : St} {H Z2 H2 Za Ha : Hp} {e2 ea : En} {Q : VK} (hd : ∀ b, H b ≠ none → H2 b ≠ none) (sa : Stp K L.T σ Za Ha ea Z2 H2 e2) {r : RV}
    (h : ∀ Z3 H3, Stp K L.T σ Za Ha ea Z3 H3 e2 → PG1 K H Q r e2 Z3 H3) : OpPost K Z2 H2 Q r := by
  cases r with
  | v d => exact ⟨fun v hv => h Z2 H2 sa v hv, fun p o v hp hn ht hv => h _ _ (sa.trans (Stp.newZ sa.re hp hn ht)) v hv⟩
  | l xs =>
    refine fun p us hp da => h _ _ (sa.trans (Stp.new sa.re hp)) (.ref p) ⟨p, us, rfl, ?_, upd_same, sa.re.ex.free hp, da⟩
    cases q : H p with
    | none => rfl
    | some o => exact absurd hp (hd p (by rw [q]; simp))

section
variable {L : Lk} {CX : CXT} {k : Nat} {Ew : XK} {N : List Str} {sc : Scope} {X : Cx} {K : PySem.W.Frag}
theorem bindSome {α β : Type} {o : Option α} {f : α → Option β} {b : β} (h : o.bind f = some b) : ∃ a, o = some a ∧ f a = some b := by
  cases o with
  | none => cases h
  | some a => exact ⟨a, rfl, h⟩
/-- one operand -/
theorem use1 {a : O} {o : Op1} {σ : St} {H : Hp} {Q : VK} (h : tR L K Ew (fun env => (evO L.ft L.gl a env).bind fun x e1 => .lift ((rsO a x e1).bind (sem1 o)) e1) σ H Q) : tUn (R1 K o) (tO L K Ew a) σ H Q := by
  obtain ⟨Z, env, r0, h⟩ := h
  refine ⟨Z, env, r0, h.bind fun x e1 Z1 H1 s1 h1 u g => ?_⟩
  obtain ⟨Z2, s2, hd⟩ := Hold.of r0 s1 g
  obtain ⟨r, e, hp⟩ := h1.lift
  obtain ⟨d, e2, e3⟩ := bindSome e
  exact ⟨Z2, d, r, s2.re.ex, hd.sh s2.re e2, e3, opp_of' s2.mv.dm s2 hp⟩
/-- two operands -/
theorem use2 {a b : O} {o : Op2} {σ : St} {H : Hp} {Q : VK} (h : tR L K Ew (fun env => (evO L.ft L.gl a env).bind fun x e1 => (evO L.ft L.gl b e1).bind fun y e2 => .lift ((rsO a x e2).bind fun u => (rsO b y e2).bind fun v => sem2 o u v) e2) σ H Q) :
    tOp (R2v K o) (tO L K Ew a) (tO L K Ew b) σ H Q := by
  obtain ⟨Z, env, r0, h⟩ := h
  refine ⟨Z, env, r0, h.bind fun x e1 Z1 H1 s1 h1 u g => ?_⟩
  obtain ⟨Z2, s2, hd⟩ := Hold.of r0 s1 g
  refine ⟨Z2, e1, s2.re, (h1.step s2).bind fun y e2 Z3 H3 s3 h3 v g2 => ?_⟩
  obtain ⟨Z4, s4, hd2⟩ := Hold.of s2.re s3 g2
  obtain ⟨r, e, hp⟩ := h3.lift
  obtain ⟨d, e4, e⟩ := bindSome e
  obtain ⟨d2, e5, e6⟩ := bindSome e
  exact ⟨Z4, d, d2, r, s4.re.ex, (hd.mono s4.mv.ez).sh s4.re e4, hd2.sh s4.re e5, e6, opp_of' (fun b hb => s4.mv.dm b (s2.mv.dm b hb)) s4 hp⟩
/-- a test by a value's truth -/
theorem truV {Z H H1 : Hp} {r : RV} {u : V} (ez : Ex Z H1) (g : Got K H Z H1 r u) {b : Bool} (h : truth r.d = some b) : TruV K u H1 b := by
  cases r with
  | l xs =>
    obtain ⟨p, us, rfl, _, h1, _, da⟩ := g
    cases h
    refine .inl ⟨us, .inl (.inl h1), ?_⟩
    cases da <;> rfl
  | v d =>
    cases d with
    | none =>
      cases h
      obtain rfl := dp_none g
      rfl
    | bool c =>
      cases h
      obtain rfl := dp_bool g
      rfl
    | int c =>
      cases h
      obtain rfl := dp_int g
      rfl
    | list ds =>
      cases h
      cases g with
      | lst h1 h2 =>
        refine .inl ⟨_, ex_l ez h1, ?_⟩
        cases h2 <;> rfl
    | tuple ds =>
      cases h
      cases g with
      | tup h1 h2 =>
        refine .inr (.inl ⟨_, ex_t ez h1, ?_⟩)
        cases h2 <;> rfl
    | _ => cases h
theorem useT {f : En → Out RV} {σ : St} {H : Hp} {Q : Bool → Hp → Prop} (h : tT L K Ew (fun env => tst (f env)) σ H Q) : tR L K Ew f σ H (fun x H' => ∃ k, TruV K x H' k ∧ Q k H') := by
  obtain ⟨Z, env, r0, h⟩ := h
  refine ⟨Z, env, r0, h.bind fun r e1 Z1 H1 s1 h1 u g => ?_⟩
  obtain ⟨b, e, hq⟩ := h1.lift
  exact ⟨b, truV s1.re.ex g e, hq Z1 H1 s1⟩
def plainTest : Expr → Bool
  | .UnaryOp .Not _ _ => false
  | .BoolOp _ _ _ => false
  | .IfExp _ _ _ _ => false
  | .Compare _ _ _ _ => false
  | _ => true
theorem test_plain {a : Expr} {f : En → Out RV} (h : plainTest a = true) (ha : PE X a (tR L X.K Ew f)) : PT X a (tT L X.K Ew fun env => tst (f env)) := by
  refine ptImp (pt_truth ha fun whole => ?_) fun σ H Q q => useT q
  cases a with
  | UnaryOp op b p => cases op <;> first | rfl | cases h
  | BoolOp => cases h
  | IfExp => cases h
  | Compare => cases h
  | _ => rfl
/-- a comparison as a test -/
theorem test_cmp1 {a b : Expr} {op : CmpOp} {pos : Pos} {r : R2} {ta tb : TE} {f : En → Out RV} (ho : OpR X (compareOp op) r) (ha : PE X a ta) (hb : PE X b tb) (hm : behindInMarks op b = false)
    (k : ∀ σ H Q, tR L X.K Ew f σ H Q → tOp r ta tb σ H Q) : PT X (.Compare a [op] [b] pos) (tT L X.K Ew fun env => tst (f env)) := by
  refine ⟨fun pins s σ H Q I h => ?_⟩
  have h2 := k _ _ _ (useT h)
  refine wpAny_isTrue_Compare1 (thn (ha.run pins s σ H _ I h2) fun v s1 ⟨x, H1, I1, r1, q1⟩ => thn (hb.run pins s1 σ H1 _ I1 q1) fun u s2 ⟨y, H2, I2, r2, q2⟩ =>
    thn (ho pins s2 σ H2 x y v u _ I2 r1 r2 q2) fun c s3 ⟨z, H3, I3, r3, kk, e, q3⟩ => ?_) hm
  exact tru_ok pins s3 σ H3 z c Q I3 r3 ⟨kk, e, q3⟩

/-! ### names and constants -/
theorem c_var {i : Nat} {x : Str} {pos : Pos} (hN : X.N[i]? = some x) (hv : isVis X.env.scope x = true) (hd : (x == ("__debug__" : Str)) = false) (hcd : (x == ("__classdict__" : Str)) = false) : PE X (.Name x pos) (tR L X.K Ew (rdV i)) := by
  refine peImp (pe_var hN (vis_of hv) hd hcd) fun σ H Q h => ?_
  obtain ⟨Z, env, r0, h⟩ := h
  cases e : rdV i env with
  | ok r e1 =>
    rw [e] at h
    obtain ⟨u, Z1, e1', s, hd'⟩ := Stp.rdV r0 e
    refine ⟨u, sg_some e1', h Z1 H s u ?_⟩
    cases r with
    | v d => exact hd'
    | l xs =>
      exfalso
      unfold rdV at e
      split at e <;> cases e
  | exc c s e1 =>
    exfalso
    unfold rdV at e
    split at e <;> cases e
  | bad =>
    rw [e] at h
    exact h.elim
theorem c_const {e : Expr} {v : V} {d : PyData} (h : PE X e (tC v)) (hd : ∀ Z, Dp X.K Z v d) : PE X e (tR L X.K Ew fun env => .ok (.v d) env) := peImp h fun σ H Q q => by
  obtain ⟨Z, env, r0, q⟩ := q
  exact q Z H (Stp.refl r0) v (hd Z)
theorem c_glob (c : Cq L CX k Ew N sc X) {j : Nat} {x : Str} {pos : Pos} (hj : L.gnm[j]? = some x) (g : isGl sc x = true) : PE X (.Name x pos) (tR L X.K Ew fun env => .lift ((L.gl[j]?).map .v) env) := by
  cases e : L.gl[j]? with
  | none =>
    refine ⟨fun pins s σ H Q I h => ?_⟩
    obtain ⟨Z, env, r0, q⟩ := h
    exact q.elim
  | some d =>
    obtain ⟨h1, v, u, h2, h3, h4⟩ := c.gl j x d hj e
    exact c_const (pe_glob (gl_of (by rw [c.sc]; exact g)) h2 h3 h1) h4
theorem c_borrow {i : Nat} {x : Str} {pos : Pos} (hN : X.N[i]? = some x) (hv : isVis X.env.scope x = true) (hd : (x == ("__debug__" : Str)) = false) (hcd : (x == ("__classdict__" : Str)) = false) : PE X (.Name x pos) (tO L X.K Ew (.b i)) := by
  refine peImp (pe_var hN (vis_of hv) hd hcd) fun σ H Q h => ?_
  obtain ⟨Z, env, r0, h⟩ := h
  have h' : Post L X.K Ew σ Z H env (fun r _ Z1 H1 => ∀ u, GotO X.K σ H Z1 H1 (.b i) r u → Q u H1) (.lift ((rdB i env).map fun _ => Option.none) env) := by
    rw [evO] at h
    exact h
  obtain ⟨a, e, h⟩ := h'.lift
  obtain ⟨d, e1, rfl⟩ := optmap e
  obtain ⟨u, e2, _⟩ := r0.rdB e1
  exact ⟨u, sg_some e2, h Z H (Stp.refl r0) u e2⟩
theorem c_operand {e : E} {ast : Expr} (h : PE X ast (tE L X.K Ew e)) : PE X ast (tO L X.K Ew (.e e)) := peImp h fun σ H Q q => by
  obtain ⟨Z, env, r0, q⟩ := q
  refine ⟨Z, env, r0, ?_⟩
  rw [evO] at q
  exact q.bind fun r e1 Z1 H1 s1 h1 u g => h1 Z1 H1 s1 u g

/-! ### operations -/
theorem c_op1 (c : Cq L CX k Ew N sc X) {o : Op1} {ast a : Expr} {x : O} (h : arg1 sc o ast = some a) (ho : o ≠ .rev) (ha : PE X a (tO L X.K Ew x)) : PE X ast (tE L X.K Ew (.op1 o x)) :=
  peImp (op1_pe c h ho ha) fun σ H Q q => by
    unfold tE at q
    simp only [evE] at q
    exact use1 q
theorem t_op1 (c : Cq L CX k Ew N sc X) {o : Op1} {ast a : Expr} {x : O} (h : arg1 sc o ast = some a) (ho : o ≠ .rev) (ha : PE X a (tO L X.K Ew x)) : PT X ast (tT L X.K Ew fun env => tst (evE L.ft L.gl (.op1 o x) env)) := by
  have pe := c_op1 c h ho ha
  have k1 : ∀ σ H Q, tR L X.K Ew (fun env => evE L.ft L.gl (.op1 o x) env) σ H Q → tUn (R1 X.K o) (tO L X.K Ew x) σ H Q := fun σ H Q q => by
    simp only [evE] at q
    exact use1 q
  unfold arg1 at h
  split at h
  · exact test_plain rfl pe
  · cases h
    exact test_cmp1 r1_isN ha pe_non (nomark _) fun σ H Q q => k1 σ H Q q
  · cases h
    exact test_cmp1 r1_notN ha pe_non (nomark _) fun σ H Q q => k1 σ H Q q
  · cases h
    exact test_cmp1 r1_isF ha pe_bl (nomark _) fun σ H Q q => k1 σ H Q q
  · cases h
    exact test_cmp1 r1_notF ha pe_bl (nomark _) fun σ H Q q => k1 σ H Q q
  · exact absurd rfl ho
  · exact test_plain rfl pe
  · exact test_plain rfl pe
  · cases h
theorem c_op2 (c : Cq L CX k Ew N sc X) {o : Op2} {ast a b : Expr} {x y : O} (h : arg2 sc o ast = some (a, b)) (ha : PE X a (tO L X.K Ew x)) (hb : PE X b (tO L X.K Ew y)) : PE X ast (tE L X.K Ew (.op2 o x y)) :=
  peImp (op2_pe c h ha hb) fun σ H Q q => by
    unfold tE at q
    simp only [evE] at q
    exact use2 q
theorem t_op2 (c : Cq L CX k Ew N sc X) {o : Op2} {ast a b : Expr} {x y : O} (h : arg2 sc o ast = some (a, b)) (ha : PE X a (tO L X.K Ew x)) (hb : PE X b (tO L X.K Ew y)) : PT X ast (tT L X.K Ew fun env => tst (evE L.ft L.gl (.op2 o x y) env)) := by
  have pe := c_op2 c h ha hb
  have k1 : ∀ σ H Q, tR L X.K Ew (fun env => evE L.ft L.gl (.op2 o x y) env) σ H Q → tOp (R2v X.K o) (tO L X.K Ew x) (tO L X.K Ew y) σ H Q := fun σ H Q q => by
    simp only [evE] at q
    exact use2 q
  unfold arg2 at h
  split at h
  · exact test_plain rfl pe
  · obtain ⟨z, e⟩ := itesome h
    cases e
    simp only [Bool.and_eq_true, decide_eq_true_eq, Bool.not_eq_true'] at z
    exact test_cmp1 (r2_cmp c.room z.1) ha hb z.2 k1
  · exact test_plain rfl pe
  · exact test_plain rfl pe
  · exact test_plain rfl pe
  · cases h
end
end PL

/-! part PLSnd5 -/
set_option Elab.async false
set_option linter.all false
set_option autoImplicit false
set_option maxRecDepth 100000
set_option maxHeartbeats 4000000
namespace PL
open PySem PySem.Spec PyProof.Rows L2
section
variable {L : Lk} {CX : CXT} {k : Nat} {Ew : XK} {N : List Str} {sc : Scope} {X : Cx} {K : PySem.W.Frag}
/-! ### chains -/
theorem opp_bool {σ : St} {Z2 H2 Za Ha : Hp} {e2 ea : En} {Q : VK} {b : Bool} (sa : Stp K L.T σ Za Ha ea Z2 H2 e2) (h : ∀ Z3 H3, Stp K L.T σ Za Ha ea Z3 H3 e2 → Q (.bl b) H3) : OpPost K Z2 H2 Q (.v (.bool b)) :=
  opp_of' (H := fun _ => none) (fun b hb => absurd rfl hb) sa fun Z3 H3 s u g => by
    obtain rfl := dp_bool g
    exact h Z3 H3 s
def evChain (L : Lk) (o1 o2 : Op2) (a b c : E) (env : En) : Out RV := (evE L.ft L.gl a env).bind fun x e1 => (evE L.ft L.gl b e1).bind fun y e2 => match sem2 o1 x.d y.d with
  | some (.v (.bool true)) => (evE L.ft L.gl c e2).bind fun z e3 => .lift (sem2 o2 y.d z.d) e3
  | some (.v (.bool false)) => .ok (.v (.bool false)) e2
  | _ => .bad
theorem use_chain {o1 o2 : Op2} {a b c : E} {σ : St} {H : Hp} {Q : VK} (h : tR L K Ew (evChain L o1 o2 a b c) σ H Q) : tChain (R2v K o1) (R2v K o2) (tE L K Ew a) (tE L K Ew b) (tE L K Ew c) σ H Q := by
  obtain ⟨Z, env, r0, h⟩ := h
  unfold evChain at h
  refine ⟨Z, env, r0, h.bind fun x e1 Z1 H1 s1 h1 u g => ?_⟩
  obtain ⟨Z2, s2, du⟩ := s1.toV r0 g
  refine ⟨Z2, e1, s2.re, (h1.step s2).bind fun y e2 Z3 H3 s3 h3 v g2 => ?_⟩
  obtain ⟨Z4, s4, dv⟩ := s3.toV s2.re g2
  have d2 : ∀ b, H b ≠ none → H3 b ≠ none := fun b hb => s4.mv.dm b (s2.mv.dm b hb)
  have shu := Sh.of s4.re.ex (dp_mono s4.mv.ez _ du)
  have shv := Sh.of s4.re.ex dv
  split at h3
  · rename_i e
    refine ⟨Z4, x.d, y.d, _, s4.re.ex, shu, shv, e, opp_bool (Stp.refl s4.re) fun Z5 H5 s5' => ⟨true, rfl, ?_⟩⟩
    have s5 := s4.trans s5'
    rw [if_pos rfl]
    refine ⟨Z5, e2, s5.re, (h3.step s5).bind fun z e3 Z6 H6 s6 h6 w' g3 => ?_⟩
    obtain ⟨Z7, s7, dw⟩ := s6.toV s5.re g3
    obtain ⟨r, e4, hp⟩ := h6.lift
    have s57 : Stp K L.T σ Z2 H1 e1 Z7 H6 e3 := s5.trans s7
    have d2 : ∀ b, H b ≠ none → H6 b ≠ none := fun b hb => s57.mv.dm b (s2.mv.dm b hb)
    have dv' : Dp K Z7 v y.d := dp_mono s7.mv.ez _ (dp_mono s5'.mv.ez _ dv)
    exact ⟨Z7, y.d, z.d, r, s7.re.ex, Sh.of s7.re.ex dv', Sh.of s7.re.ex dw, e4, opp_of' d2 s7 hp⟩
  · rename_i e
    refine ⟨Z4, x.d, y.d, _, s4.re.ex, shu, shv, e, opp_bool s4 fun Z5 H5 s5 => ⟨false, rfl, ?_⟩⟩
    rw [if_neg (by decide)]
    exact h3 Z5 H5 s5 (.bl false) (.bl false)
  · exact h3.elim
theorem c_chain (c0 : Cq L CX k Ew N sc X) {o1 o2 : Op2} {p1 p2 : CmpOp} {a b c : E} {a' b' c' : Expr} {pos : Pos} (h1 : op2c o1 = some p1) (h2 : op2c o2 = some p2) (hm : lastMarks [p1, p2] [b', c'] = false)
    (ha : PE X a' (tE L X.K Ew a)) (hb : PE X b' (tE L X.K Ew b)) (hc : PE X c' (tE L X.K Ew c)) : PE X (.Compare a' [p1, p2] [b', c'] pos) (tE L X.K Ew (.chain o1 o2 a b c)) :=
  peImp (pe_chain (r2_cmp c0.room h1) (r2_cmp c0.room h2) ha hb hc hm) fun σ H Q q => by
    unfold tE at q
    simp only [evE] at q
    exact use_chain q
theorem t_chain (c0 : Cq L CX k Ew N sc X) {o1 o2 : Op2} {p1 p2 : CmpOp} {a b c : E} {a' b' c' : Expr} {pos : Pos} (h1 : op2c o1 = some p1) (h2 : op2c o2 = some p2) (hm : lastMarks [p1, p2] [b', c'] = false)
    (ha : PE X a' (tE L X.K Ew a)) (hb : PE X b' (tE L X.K Ew b)) (hc : PE X c' (tE L X.K Ew c)) : PT X (.Compare a' [p1, p2] [b', c'] pos) (tT L X.K Ew fun env => tst (evE L.ft L.gl (.chain o1 o2 a b c) env)) := by
  refine ⟨fun pins s σ H Q I h => ?_⟩
  have h' : tR L X.K Ew (evChain L o1 o2 a b c) σ H (fun x H' => ∃ k, TruV X.K x H' k ∧ Q k H') := useT (by simp only [evE] at h; exact h)
  have h2' := use_chain h'
  refine isTrue_chain (thn (ha.run pins s σ H _ I h2') fun v s1 ⟨x, H1, I1, r1, q1⟩ => test_link (thn (hb.run pins s1 σ H1 _ I1 q1) fun u s2 ⟨y, H2, I2, r2, q2⟩ =>
    thn (r2_cmp c0.room h1 pins s2 σ H2 x y v u _ I2 r1 r2 q2) fun d s3 ⟨z, H3, I3, r3, k, e, q3⟩ => ?_)) hm
  subst e
  cases r3
  refine wpAny_truthy_bool ?_
  cases k with
  | false =>
    obtain ⟨k', e', q'⟩ := q3
    cases e'
    exact ite_ff ⟨H3, I3, q'⟩
  | true =>
    refine ite_tt (test_last (thn (hc.run pins s3 σ H3 _ I3 q3) fun w' s4 ⟨z', H4, I4, r4, q4⟩ => thn (r2_cmp c0.room h2 pins s4 σ H4 y z' u w' _ I4 r2 r4 q4) fun d' s5 ⟨z2, H5, I5, r5, k2, e2, q5⟩ => ?_))
    exact tru_ok pins s5 σ H5 z2 d' Q I5 r5 ⟨k2, e2, q5⟩

/-! ### and, or, not, if -/
theorem got_bool {H Z1 H1 : Hp} {r : RV} {u : V} {b : Bool} (g : Got K H Z1 H1 r u) (e : r.d = .bool b) : u = .bl b := by
  cases r with
  | v d => cases e; exact dp_bool g
  | l xs => cases e
theorem c_and {a b : E} {a' b' : Expr} {rest : List Expr} {pos : Pos} (ha : PE X a' (tE L X.K Ew a)) (hb : PE X (.BoolOp .And (b' :: rest) pos) (tE L X.K Ew b)) : PE X (.BoolOp .And (a' :: b' :: rest) pos) (tE L X.K Ew (.andE a b)) :=
  peImp (pe_and ha hb) fun σ H Q q => by
    obtain ⟨Z, env, r0, h⟩ := q
    simp only [evE] at h
    refine ⟨Z, env, r0, h.bind fun x e1 Z1 H1 s1 h1 u g => ?_⟩
    obtain ⟨Z2, s2, du⟩ := s1.toV r0 g
    split at h1
    · rename_i e
      refine ⟨true, got_bool g e, ?_⟩
      rw [if_pos rfl]
      exact ⟨Z2, e1, s2.re, (h1.step s2).imp fun r e2 Z3 H3 s3 hp u g => hp u (by
        cases r with
        | v d => exact g
        | l xs =>
          obtain ⟨p, us, e, h0, h⟩ := g
          exact ⟨p, us, e, by cases z : H p with | none => rfl | some o => exact absurd h0 (s2.mv.dm p (by rw [z]; simp)), h⟩)⟩
    · rename_i e
      refine ⟨false, got_bool g e, ?_⟩
      rw [if_neg (by decide)]
      exact h1 Z1 H1 s1 (.bl false) (.bl false)
    · exact h1.elim
end
end PL

/-! part PLSnd6 -/
set_option Elab.async false
set_option linter.all false
set_option autoImplicit false
set_option maxRecDepth 100000
set_option maxHeartbeats 4000000
namespace PL
open PySem PySem.Spec PyProof.Rows L2
section
variable {L : Lk} {CX : CXT} {k : Nat} {Ew : XK} {N : List Str} {sc : Scope} {X : Cx} {K : PySem.W.Frag} {σ : St} {Z H Z2 H2 : Hp} {env e1 : En} {Q : VK}
theorem got_base {H Hb Z1 H1 : Hp} (hd : ∀ b, H b ≠ none → Hb b ≠ none) {r : RV} {u : V} (g : Got K Hb Z1 H1 r u) : Got K H Z1 H1 r u := by
  cases r with
  | v d => exact g
  | l xs =>
    obtain ⟨p, us, e, h0, h⟩ := g
    exact ⟨p, us, e, by cases z : H p with | none => rfl | some o => exact absurd h0 (hd p (by rw [z]; simp)), h⟩
theorem tail {f : En → Out RV} (s2 : Stp K L.T σ Z H env Z2 H2 e1) (h : Post L K Ew σ Z H env (PG1 K H Q) (f e1)) : tR L K Ew f σ H2 Q :=
  ⟨Z2, e1, s2.re, (h.step s2).imp fun r e2 Z3 H3 s3 hp u g => hp u (got_base s2.mv.dm g)⟩
theorem tailT {f : En → Out Bool} {Q : Bool → Hp → Prop} (s2 : Stp K L.T σ Z H env Z2 H2 e1) (h : Post L K Ew σ Z H env (fun b _ _ H1 => Q b H1) (f e1)) : tT L K Ew f σ H2 Q := ⟨Z2, e1, s2.re, h.step s2⟩
theorem c_or {a b : E} {a' b' : Expr} {rest : List Expr} {pos : Pos} (ha : PE X a' (tE L X.K Ew a)) (hb : PE X (.BoolOp .Or (b' :: rest) pos) (tE L X.K Ew b)) : PE X (.BoolOp .Or (a' :: b' :: rest) pos) (tE L X.K Ew (.orE a b)) :=
  peImp (pe_or ha hb) fun σ H Q q => by
    obtain ⟨Z, env, r0, h⟩ := q
    simp only [evE] at h
    refine ⟨Z, env, r0, h.bind fun x e1 Z1 H1 s1 h1 u g => ?_⟩
    split at h1
    · rename_i e
      refine ⟨false, got_bool g e, ?_⟩
      rw [if_neg (by decide)]
      exact tail s1 h1
    · rename_i e
      refine ⟨true, got_bool g e, ?_⟩
      rw [if_pos rfl]
      exact h1 Z1 H1 s1 (.bl true) (.bl true)
    · exact h1.elim
/-- a test's reading of the parts -/
theorem tst_bool {r : RV} {e1 : En} {b : Bool} (e : r.d = .bool b) : (Out.lift (truth r.d) e1 : Out Bool) = .ok b e1 := by
  rw [e]
  rfl
abbrev evT (L : Lk) (e : E) : En → Out Bool := fun env => tst (evE L.ft L.gl e env)
theorem tst_and {L : Lk} {a b : E} {env : En} : (∃ f : Bool → En → Out Bool, evT L (.andE a b) env = (evE L.ft L.gl a env).bind (fun x e1 => match x.d with
    | .bool true => evT L b e1
    | .bool false => .ok false e1
    | _ => .bad)) := by
  refine ⟨fun _ _ => .bad, ?_⟩
  show tst (evE L.ft L.gl (.andE a b) env) = _
  simp only [evE]
  unfold tst
  cases evE L.ft L.gl a env with
  | ok r e1 =>
    show Out.bind (match r.d with
      | .bool true => evE L.ft L.gl b e1
      | .bool false => .ok (.v (.bool false)) e1
      | _ => .bad) _ = (match r.d with
      | .bool true => evT L b e1
      | .bool false => .ok false e1
      | _ => .bad)
    split <;> rfl
  | exc c s e1 => rfl
  | bad => rfl
theorem tst_or {L : Lk} {a b : E} {env : En} : evT L (.orE a b) env = (evE L.ft L.gl a env).bind (fun x e1 => match x.d with
    | .bool false => evT L b e1
    | .bool true => .ok true e1
    | _ => .bad) := by
  show tst (evE L.ft L.gl (.orE a b) env) = _
  simp only [evE]
  unfold tst
  cases evE L.ft L.gl a env with
  | ok r e1 =>
    show Out.bind (match r.d with
      | .bool false => evE L.ft L.gl b e1
      | .bool true => .ok (.v (.bool true)) e1
      | _ => .bad) _ = (match r.d with
      | .bool false => evT L b e1
      | .bool true => .ok true e1
      | _ => .bad)
    split <;> rfl
  | exc c s e1 => rfl
  | bad => rfl
/-- from a bool's test to the value -/
theorem test_of {a : E} {F : RV → En → Out Bool} {Q : Bool → Hp → Prop} {P' : Bool → En → Hp → Hp → Prop} (hF : ∀ x e1, (∀ b, x.d ≠ .bool b) → F x e1 = .bad) (h : Post L K Ew σ Z H env (fun b _ _ H1 => Q b H1) ((evE L.ft L.gl a env).bind F))
    (k : ∀ x b e1 Z1 H1, x.d = .bool b → Stp K L.T σ Z H env Z1 H1 e1 → Post L K Ew σ Z H env (fun b _ _ H1 => Q b H1) (F x e1) → P' b e1 Z1 H1) : Post L K Ew σ Z H env P' (evT L a env) := by
  show Post L K Ew σ Z H env P' (tst (evE L.ft L.gl a env))
  unfold tst
  cases e : evE L.ft L.gl a env with
  | ok r e1 =>
    rw [e] at h
    have h : Post L K Ew σ Z H env (fun b _ _ H1 => Q b H1) (F r e1) := h
    show Post L K Ew σ Z H env P' (Out.lift (truth r.d) e1)
    by_cases hb : ∃ b, r.d = .bool b
    · obtain ⟨b, hb⟩ := hb
      rw [tst_bool hb]
      exact fun Z1 H1 s => k r b e1 Z1 H1 hb s h
    · rw [hF r e1 (fun b e => hb ⟨b, e⟩)] at h
      exact h.elim
  | exc c s e1 =>
    rw [e] at h
    exact h
  | bad =>
    rw [e] at h
    exact h.elim
theorem w_and1 {a : E} {a' : Expr} {pos : Pos} (ha : PT X a' (tT L X.K Ew (evT L a))) : PW X (.BoolOp .And [a'] pos) (tT L X.K Ew (evT L a)) := pw_and1 ha
theorem t_and {a b : E} {a' b' : Expr} {rest : List Expr} {pos : Pos} (ha : PT X a' (tT L X.K Ew (evT L a))) (hb : PW X (.BoolOp .And (b' :: rest) pos) (tT L X.K Ew (evT L b))) : PW X (.BoolOp .And (a' :: b' :: rest) pos) (tT L X.K Ew (evT L (.andE a b))) :=
  pwImp (pw_and ha hb) fun σ H Q q => by
    obtain ⟨Z, env, r0, h⟩ := q
    obtain ⟨_, e⟩ := tst_and (L := L) (a := a) (b := b) (env := env)
    rw [e] at h
    refine ⟨Z, env, r0, test_of (fun x e1 hx => ?_) h fun x b e1 Z1 H1 hx s1 h1 => ?_⟩
    · split
      · rename_i e; exact absurd e (hx _)
      · rename_i e; exact absurd e (hx _)
      · rfl
    · rw [hx] at h1
      cases b with
      | true =>
        rw [if_pos rfl]
        exact tailT s1 h1
      | false =>
        rw [if_neg (by decide)]
        exact h1 Z1 H1 s1
theorem t_or {a b : E} {a' b' : Expr} {rest : List Expr} {pos : Pos} (ha : PT X a' (tT L X.K Ew (evT L a))) (hb : PW X (.BoolOp .Or (b' :: rest) pos) (tT L X.K Ew (evT L b))) : PW X (.BoolOp .Or (a' :: b' :: rest) pos) (tT L X.K Ew (evT L (.orE a b))) :=
  pwImp (pw_or ha hb) fun σ H Q q => by
    obtain ⟨Z, env, r0, h⟩ := q
    rw [tst_or] at h
    refine ⟨Z, env, r0, test_of (fun x e1 hx => ?_) h fun x b e1 Z1 H1 hx s1 h1 => ?_⟩
    · split
      · rename_i e; exact absurd e (hx _)
      · rename_i e; exact absurd e (hx _)
      · rfl
    · rw [hx] at h1
      cases b with
      | true =>
        rw [if_pos rfl]
        exact h1 Z1 H1 s1
      | false =>
        rw [if_neg (by decide)]
        exact tailT s1 h1
/-- not a, by a's test -/
theorem c_not {a : E} {a' : Expr} {pos : Pos} (ha : PE X a' (tE L X.K Ew a)) : PE X (.UnaryOp .Not a' pos) (tE L X.K Ew (.notE a)) := by
  refine ⟨fun pins s σ H Q I h => ?_⟩
  have h2 : tR L X.K Ew (evE L.ft L.gl a) σ H (fun x H' => ∃ k, TruV X.K x H' k ∧ Q (.bl (!k)) H') := useT (by
    obtain ⟨Z, env, r0, h⟩ := h
    simp only [evE] at h
    exact ⟨Z, env, r0, h.bind fun b e1 Z1 H1 s1 h1 => h1 Z1 H1 s1 (.bl (!b)) (.bl (!b))⟩)
  refine UnaryOp_ (thn (ha.run pins s σ H _ I h2) fun v s1 ⟨x, H1, I1, r1, k, tv, q1⟩ => ?_)
  refine not_of (thn (tru_ok pins s1 σ H1 x v (fun b H2 => Q (.bl (!b)) H2) I1 r1 ⟨k, tv, q1⟩) fun b s2 ⟨H2, I2, q2⟩ => ?_)
  exact ⟨.bl (!b), H2, I2, rfl, q2⟩
theorem t_not {a : E} {a' : Expr} {pos : Pos} (ha : PT X a' (tT L X.K Ew (evT L a))) : PT X (.UnaryOp .Not a' pos) (tT L X.K Ew (evT L (.notE a))) :=
  ptImp (pt_not ha) fun σ H Q q => by
    obtain ⟨Z, env, r0, h⟩ := q
    have e : evT L (.notE a) env = (evT L a env).bind fun b e1 => .ok (!b) e1 := by
      show tst (evE L.ft L.gl (.notE a) env) = _
      simp only [evE]
      show (((tst (evE L.ft L.gl a env)).bind _).bind _) = (tst (evE L.ft L.gl a env)).bind _
      cases tst (evE L.ft L.gl a env) <;> rfl
    rw [e] at h
    exact ⟨Z, env, r0, h.bind fun b e1 Z1 H1 s1 h1 => h1 Z1 H1 s1⟩
theorem c_if {c a b : E} {c' a' b' : Expr} {pos : Pos} (hc : PT X c' (tT L X.K Ew (evT L c))) (ha : PE X a' (tE L X.K Ew a)) (hb : PE X b' (tE L X.K Ew b)) : PE X (.IfExp c' a' b' pos) (tE L X.K Ew (.ifE c a b)) :=
  peImp (pe_ifExp hc ha hb) fun σ H Q q => by
    obtain ⟨Z, env, r0, h⟩ := q
    simp only [evE] at h
    refine ⟨Z, env, r0, h.bind fun b e1 Z1 H1 s1 h1 => ?_⟩
    cases b with
    | true =>
      rw [if_pos rfl] at h1 ⊢
      exact tail s1 h1
    | false =>
      rw [if_neg (by decide)] at h1 ⊢
      exact tail s1 h1
/-! ### displays -/
theorem c_nil : PA X [] (tEs L X.K Ew .nil) := paImp pa_nil fun σ H Q q => by
  obtain ⟨Z, env, r0, h⟩ := q
  simp only [evEs] at h
  exact h Z H (Stp.refl r0) [] .nil
theorem c_cons {e : E} {es : Es} {e' : Expr} {es' : List Expr} (ns : notStar e' = true) (he : PE X e' (tE L X.K Ew e)) (hs : PA X es' (tEs L X.K Ew es)) : PA X (e' :: es') (tEs L X.K Ew (.cons e es)) :=
  paImp (pa_cons he hs (star_cons ns)) fun σ H Q q => by
    obtain ⟨Z, env, r0, h⟩ := q
    simp only [evEs] at h
    refine ⟨Z, env, r0, h.bind fun r e1 Z1 H1 s1 h1 u g => ?_⟩
    obtain ⟨Z2, s2, du⟩ := s1.toV r0 g
    refine ⟨Z2, e1, s2.re, (h1.step s2).bind fun ds e2 Z3 H3 s3 h3 us da => ?_⟩
    exact h3 Z3 H3 s3 (u :: us) (.cons (dp_mono s3.mv.ez _ du) da)
theorem c_tup {es : Es} {es' : List Expr} {x1 : Nat} {pos : Pos} (h : PA X es' (tEs L X.K Ew es)) : PE X (.Tuple es' x1 pos) (tE L X.K Ew (.tup es)) := by
  refine ⟨fun pins s σ H Q I hq => ?_⟩
  obtain ⟨Z, env, r0, g⟩ := hq
  simp only [evE] at g
  have hq' : tEs L X.K Ew es σ H fun xs H1 => xs.length ≤ sizeLine ∧ ∀ its p, H1 p = none → Q (.ref p) (upd H1 p (.frz (tobj its) (.tup xs))) := by
    refine ⟨Z, env, r0, g.bind fun ds e1 Z1 H1 s1 h1 us da => ?_⟩
    by_cases c : szOk ds.length = true
    · rw [if_pos c] at h1
      have n1 := dpa_len da
      refine ⟨by have := szOk_of c; omega, fun its p hp => ?_⟩
      exact h1 _ _ (s1.trans (Stp.newZ (o := .frz (tobj its) (.tup us)) s1.re hp ntb_frz rfl)) (.ref p) (.tup (.inl (.inr ⟨_, upd_same⟩)) (dpa_mono (Ex.new (s1.re.ex.free hp)) _ da))
    · rw [if_neg c] at h1
      exact h1.elim
  refine wpAny_Tuple_spliced (thn (h.run pos pins s σ H _ I hq') fun vs s1 ⟨us, H1, I1, r, z, q⟩ => ⟨by rw [← r.length]; exact z, ?_⟩)
  have gt : (s1.heap.push (tobj vs)).get? s1.heap.objs.size = some (tobj vs) := Heap.get?_push_size _ rfl
  refine ⟨.ref s1.heap.objs.size, _, Inv.laid (t' := s1.toks) (o := .frz (tobj vs) (.tup us)) I1 (fun b u e => Heap.get?_push_of_some _ e) (Nat.le_refl _) ⟨gt, z, vs, r, _, gt, rfl, 0, rfl⟩, rfl, q vs _ (I1.hok.fresh (Nat.le_refl _))⟩
theorem c_lst {es : Es} {es' : List Expr} {pos : Pos} (h : PA X es' (tEs L X.K Ew es)) : PE X (.List es' pos) (tE L X.K Ew (.lst es)) :=
  peImp (pe_lst h) fun σ H Q q => by
    obtain ⟨Z, env, r0, h⟩ := q
    simp only [evE] at h
    refine ⟨Z, env, r0, h.bind fun ds e1 Z1 H1 s1 h1 us da => ?_⟩
    by_cases c : szOk ds.length = true
    · rw [if_pos c] at h1
      have := dpa_len da
      refine ⟨by have := szOk_of c; omega, fun p hp => ?_⟩
      refine h1 _ _ (s1.trans (Stp.new s1.re hp)) (.ref p) ⟨p, us, rfl, ?_, upd_same, s1.re.ex.free hp, da⟩
      cases z : H p with
      | none => rfl
      | some o => exact absurd hp (s1.mv.dm p (by rw [z]; simp))
    · rw [if_neg c] at h1
      exact h1.elim
end
end PL

/-! part PLSnd7 -/
set_option Elab.async false
set_option linter.all false
set_option autoImplicit false
set_option maxRecDepth 100000
set_option maxHeartbeats 4000000
namespace PL
open PySem PySem.Spec PyProof.Rows L2
section
variable {L : Lk} {CX : CXT} {k : Nat} {Ew : XK} {N : List Str} {sc : Scope} {X : Cx} {K : PySem.W.Frag} {σ : St} {Z H Z2 H2 : Hp} {env e1 : En} {Q : VK}
theorem free_of (hd : ∀ b, H b ≠ none → H2 b ≠ none) {p : Addr} (hp : H2 p = none) : H p = none := by
  cases z : H p with
  | none => rfl
  | some o => exact absurd hp (hd p (by rw [z]; simp))
theorem dp_intv {Z1 H1 : Hp} {r : RV} {u : V} {i : Int} (g : Got K H Z1 H1 r u) (e : r.d = .int i) : u = .int i := by
  cases r with
  | v d => cases e; exact dp_int g
  | l xs => cases e
/-! ### [..] * n -/
theorem c_rep {es : Es} {es' : List Expr} {n : E} {n' : Expr} {p1 pos : Pos} (h : PA X es' (tEs L X.K Ew es)) (hn : PE X n' (tE L X.K Ew n)) : PE X (.BinOp (.List es' p1) .Mult n' pos) (tE L X.K Ew (.repL es n)) :=
  peImp (pe_op op_rep (pe_lst h) hn) fun σ H Q q => by
    obtain ⟨Z, env, r0, h⟩ := q
    simp only [evE] at h
    refine ⟨Z, env, r0, h.bind fun ds e1 Z1 H1 s1 h1 us da => ?_⟩
    have ld := dpa_len da
    split at h1
    · rename_i hz
      refine ⟨by rw [sizeLine_eq]; omega, fun p hp => ?_⟩
      have sn := s1.trans (Stp.new (o := .lst us) s1.re hp)
      have nl : ¬ LsAt e1 σ p := fun z => by
        obtain ⟨us, q, _⟩ := s1.re.ndom z
        rw [hp] at q
        cases q
      refine ⟨Z1, e1, sn.re, (h1.step sn).bind fun y e2 Z3 H3 s3 h3 w' g => ?_⟩
      split at h3
      · rename_i i e
        split at h3
        · rename_i hk
          obtain rfl := dp_intv g e
          have hp3 : H3 p = some (.lst us) := s3.mv.kp p _ upd_same (fun z => nl z.ls) (fun z => nl z.ls) ntb_lst
          refine ⟨p, i, us, rfl, rfl, hp3, by omega, by omega, ?_, fun q hq => ?_⟩
          · rw [sizeLine_eq]
            have : us.length * i.toNat ≤ 1000 * 1000 := Nat.mul_le_mul (by omega) (by omega)
            omega
          · have sf := s3.trans (Stp.new (o := .lst (List.replicate i.toNat us).flatten) s3.re hq)
            refine h3 _ _ sf (.ref q) ⟨q, _, rfl, free_of (fun b hb => s3.mv.dm b (sn.mv.dm b hb)) hq, upd_same, s3.re.ex.free hq, dpa_mono s3.mv.ez _ (dpa_rep da _)⟩
        · exact h3.elim
      · exact h3.elim
    · exact h1.elim
/-! ### slices -/
theorem c_no : PO X none (tS L X.K Ew .no) := ⟨fun pins s σ H Q I h => po_none.run pins s σ H Q I (by
  obtain ⟨Z, env, r0, h⟩ := h
  simp only [evS] at h
  exact h Z H (Stp.refl r0))⟩
theorem c_so {e : E} {e' : Expr} (he : PE X e' (tE L X.K Ew e)) : PO X (some e') (tS L X.K Ew (.so e)) := ⟨fun pins s σ H Q I h => (po_some he).run pins s σ H Q I (by
  obtain ⟨Z, env, r0, h⟩ := h
  simp only [evS] at h
  refine ⟨Z, env, r0, h.bind fun r e1 Z1 H1 s1 h1 u g => ?_⟩
  obtain ⟨i, e, hp⟩ := h1.lift
  unfold oneI at e
  split at e
  · rename_i r' j er
    cases e
    exact ⟨j, dp_intv g (by injection er), hp Z1 H1 s1⟩
  · cases e)⟩
theorem c_sl {a : O} {lo hi : SE} {a' : Expr} {lo' hi' : Option Expr} {p2 pos : Pos} (ha : PE X a' (tO L X.K Ew a)) (hl : PO X lo' (tS L X.K Ew lo)) (hh : PO X hi' (tS L X.K Ew hi)) : PE X (.Subscript a' (.Slice lo' hi' none p2) pos) (tE L X.K Ew (.sl a lo hi)) :=
  peImp (pe_slice r_sl ha hl hh) fun σ H Q q => by
    obtain ⟨Z, env, r0, h⟩ := q
    simp only [evE] at h
    refine ⟨Z, env, r0, h.bind fun x e1 Z1 H1 s1 h1 u g => ?_⟩
    obtain ⟨Z2, s2, hd⟩ := Hold.of r0 s1 g
    refine ⟨Z2, e1, s2.re, (h1.step s2).bind fun l e2 Z3 H3 s3 h3 => ?_⟩
    refine ⟨Z3, e2, s3.re, (h3.step s3).bind fun hi e3 Z4 H4 s4 h4 => ?_⟩
    obtain ⟨r, e, hp⟩ := h4.lift
    obtain ⟨d, e4, e5⟩ := bindSome e
    exact ⟨Z4, d, r, s4.re.ex, (hd.mono (s3.mv.ez.trans s4.mv.ez)).sh s4.re e4, e5, opp_of' (fun b hb => s4.mv.dm b (s3.mv.dm b (s2.mv.dm b hb))) s4 hp⟩
/-! ### methods -/
def noCall0 : Expr → Bool
  | .Call (.Name _ _) [] [] _ => false
  | _ => true
theorem base_of {o : Expr} {at' : Str} {env : Env} {whole : Sem Value} (h : noCall0 o = true) : attributeBase o at' env whole = whole := by
  cases o with
  | Call f as ks p =>
    cases f with
    | Name x q =>
      cases as with
      | nil =>
        cases ks with
        | nil => cases h
        | cons => rfl
      | cons => rfl
    | _ => rfl
  | _ => rfl
theorem few1 {e : Expr} {env : Env} {cpos : Pos} (ns : notStar e = true) : ((backTo cpos (starEach [e] env)).all (fun x => !x.1) && (backToKw cpos (keywordEach [] env)).all (fun x => x.1.isSome)
      && decide (([e] : List Expr).length + ([] : List Keyword).length + (if ([] : List Keyword).isEmpty then 0 else 1) < 30)) = true := by
  rw [star_cons ns]
  rfl
theorem tyl {H : Hp} {a : Addr} {us : List V} (h : SqL K H a us) : tyV K "list" (.ref a) H := .inl ⟨rfl, us, h⟩
theorem dp_tupD {K : PySem.W.Frag} (tk : ∀ a o, K.lookup a = some o → o.cls = .type "tuple" → o.dict = none) {Z H : Hp} (ez : Ex Z H) (pz : TupsOk Z) {u : V} {ds : List PyData} (h : Dp K Z u (.tuple ds)) : TupD K H u := by
  cases h with
  | tup h1 h2 =>
    refine ⟨_, _, rfl, ex_t ez h1, ?_⟩
    rcases h1 with (h | ⟨ob, h⟩) | ⟨o, its, n, hk, hc, _⟩
    · exact absurd (pz _ _ h) id
    · exact .inl ⟨ob, ez.kp _ _ h ntb_frz, pz _ _ h⟩
    · exact .inr ⟨o, hk, tk _ _ hk hc⟩
theorem hold_tup {L : Lk} {K : PySem.W.Frag} {σ : St} {Z H : Hp} {env : En} (r : RE K L.T Z H env σ) {o : O} {x : Option RV} {u : V} (h : Hold K σ Z o x u) {ds : List PyData} (e : rsO o x env = some (.tuple ds)) : Dp K Z u (.tuple ds) := h.sh r e
theorem c_meth (c : Cq L CX k Ew N sc X) {o : Op2} {nm : Str} {a b : O} {a' b' : Expr} {ap cp : Pos} (ho : o2meth o = some nm) (hl : (ap.endLine == cp.line) = true) (nb : noCall0 a' = true) (ns : notStar b' = true)
    (ha : PE X a' (tO L X.K Ew a)) (hb : PE X b' (tO L X.K Ew b)) : PE X (.Call (.Attribute a' nm ap) [b'] [] cp) (tE L X.K Ew (.meth o a b)) := by
  have mt : ∃ il it, MtR X il (RMl X.K false o) ∧ PySem.Slot "list" nm il ∧ typeOf (.builtin il) = pure (.type "method_descriptor") ∧ MtR X it (RMl X.K true o) ∧ PySem.Slot "tuple" nm it ∧ typeOf (.builtin it) = pure (.type "method_descriptor") := by
    cases o <;> cases ho
    · exact ⟨_, _, mt_index c.room, PySem.F.slot_list_index, PySem.F.type_list_index, mt_indexT c.room, PySem.F.slot_tuple_index, PySem.F.type_tuple_index⟩
    · exact ⟨_, _, mt_count c.room, PySem.F.slot_list_count, PySem.F.type_list_count, mt_countT c.room, PySem.F.slot_tuple_count, PySem.F.type_tuple_count⟩
  obtain ⟨il, it, m1, m2, m3, m4, m5, m6⟩ := mt
  refine peImp (pe_bm2 m2 m3 m1 m5 m6 m4 ha (pa_cons hb pa_nil (star_cons ns)) ns (base_of nb) hl) fun σ H Q q => ?_
  obtain ⟨Z, env, r0, h⟩ := q
  simp only [evE] at h
  refine ⟨Z, env, r0, h.bind fun x e1 Z1 H1 s1 h1 u g => ?_⟩
  obtain ⟨Z2, s2, hd⟩ := Hold.of r0 s1 g
  have go : ∀ tp : Bool, Post L X.K Ew σ Z H env (PG1 X.K H Q) ((evO L.ft L.gl b e1).bind fun y e2 => .lift ((rsO a x e2).bind fun u => (rsO b y e2).bind fun v => semM tp o u v) e2) → tCons (tO L X.K Ew b) tNil σ H1 fun xs H2 => RMl X.K tp o u xs H2 Q := fun tp h1 => by
    refine ⟨Z2, e1, s2.re, (h1.step s2).bind fun y e2 Z3 H3 s3 h3 v g2 => ?_⟩
    obtain ⟨Z4, s4, hd2⟩ := Hold.of s2.re s3 g2
    obtain ⟨r, e, hp⟩ := h3.lift
    obtain ⟨d, e4, e⟩ := bindSome e
    obtain ⟨d2, e5, e6⟩ := bindSome e
    unfold semM at e6
    by_cases z : isTup d = tp
    · rw [if_pos z] at e6
      exact ⟨Z4, d, d2, r, z, s4.re.ex, (hd.mono s4.mv.ez).sh s4.re e4, hd2.sh s4.re e5, e6, opp_of' (fun b hb => s4.mv.dm b (s2.mv.dm b hb)) s4 hp⟩
    · rw [if_neg z] at e6
      cases e6
  split at h1
  · rename_i xs er
    refine .inl ⟨?_, go false h1⟩
    obtain ⟨p, us, rfl, hs, _⟩ := hd.sh s2.re er
    exact tyl hs
  · rename_i xs er
    exact .inr ⟨dp_tupD c.tk s2.re.ex s2.re.pt (hold_tup s2.re hd er), go true h1⟩
  · exact h1.elim
theorem c_pop {i : Nat} {x : Str} {a : E} {a' : Expr} {np ap cp : Pos} (hN : X.N[i]? = some x) (hv : isVis X.env.scope x = true) (hd : (x == ("__debug__" : Str)) = false) (hcd : (x == ("__classdict__" : Str)) = false) (hl : (ap.endLine == cp.line) = true) (ns : notStar a' = true)
    (ha : PE X a' (tE L X.K Ew a)) : PE X (.Call (.Attribute (.Name x np) "pop" ap) [a'] [] cp) (tE L X.K Ew (.pop i a)) := by
  refine peImp (pe_bm PySem.F.plainAttrs_list PySem.F.slot_list_pop PySem.F.type_list_pop mt_popAt (pe_var hN (vis_of hv) hd hcd) (pa_cons ha pa_nil (star_cons ns)) (base_of rfl) (few1 ns) hl (star_cons ns) rfl) fun σ H Q q => ?_
  obtain ⟨Z, env, r0, h⟩ := q
  simp only [evE] at h
  split at h
  · exact h.elim
  · rename_i hm
    cases e0 : rdM i env with
    | none => rw [e0] at hm; exact absurd rfl hm
    | some xs0 =>
      obtain ⟨a0, us0, ea, hH, _⟩ := r0.mAt e0
      refine ⟨.ref a0, sg_some ea, tyl (.inl (.inl hH)), ?_⟩
      refine ⟨Z, env, r0, h.bind fun y e1 Z1 H1 s1 h1 u g => ?_⟩
      split at h1
      · rename_i kk xs ey ex
        obtain ⟨a1, us, ea1, hH1, da⟩ := s1.re.mAt ex
        rw [ea] at ea1
        cases ea1
        split at h1
        · rename_i j ej
          split at h1
          · rename_i d ed
            split at h1
            · rename_i hs
              obtain rfl := dp_intv g ey
              obtain ⟨v, ev, dv⟩ := dpa_at j da ed
              obtain ⟨i1, i2, i3, i4⟩ := ixN_seq ej
              unfold smallI at hs
              simp only [Bool.and_eq_true, decide_eq_true_eq] at hs
              have ld := dpa_len da
              exact ⟨a0, us, kk, j, v, rfl, rfl, hH1, by omega, by omega, by rw [ld]; exact i1, ev, h1 _ _ (s1.trans (Stp.wrM (us := us) s1.re ex ea (dpa_erase j da))) v dv⟩
            · exact h1.elim
          · exact h1.elim
        · exact h1.elim
      · exact h1.elim
end
end PL

/-! part PLSnd8 -/
set_option Elab.async false
set_option linter.all false
set_option autoImplicit false
set_option maxRecDepth 100000
set_option maxHeartbeats 4000000
/-! calls -/
namespace PL
open PySem PySem.Spec PyProof.Rows L2
/-- what a def promises: its outcome by ft -/
def spF (L : Lk) (K : PySem.W.Frag) (f : Nat) : Sp := fun vs H Q E => ∃ Z args, RE K L.T Z H args (vs.map some) ∧ (∀ i, isL (args.gt i) = true → i = 0) ∧ match L.ft f args with
  | .ok r args' => ∀ Z1 H1, Stp K L.T (vs.map some) Z H args Z1 H1 args' → ∀ u, Got K H Z1 H1 r u → Q u H1
  | .exc c s => (∀ i, isL (args.gt i) = false) ∧ ∀ Z1 H1, Stp K L.T (vs.map some) Z H args Z1 H1 args → ∀ C fld dd, L.xc[c]? = some (C, fld) → H1 dd = some (.xd [(fld, .str s)]) → E (.ref C) (some dd) H1
  | .bad => False
section
variable {L : Lk} {CX : CXT} {k : Nat} {Ew : XK} {N : List Str} {sc : Scope} {X : Cx} {K : PySem.W.Frag} {T : Tb} {σ : St} {Z H Z1 H1 Z2 H2 : Hp} {env e1 : En} {Q : VK}
theorem sg_map {us : List V} (i : Nat) : sg (us.map some) i = us[i]? := by
  unfold sg
  rw [List.getD_eq_getElem?_getD, List.getElem?_map]
  cases us[i]? <;> rfl
theorem gt_vals {ds : List PyData} (i : Nat) : En.gt (ds.map .val) i = (match ds[i]? with
  | some d => .val d
  | none => .non) := by
  unfold En.gt
  rw [List.getD_eq_getElem?_getD, List.getElem?_map]
  cases ds[i]? <;> rfl
theorem gt_cons0 {s : Slot} {e : En} : En.gt (s :: e) 0 = s := rfl
theorem gt_consS {s : Slot} {e : En} (i : Nat) : En.gt (s :: e) (i + 1) = En.gt e i := rfl
theorem sg_cons0 {o : Option V} {e : St} : sg (o :: e) 0 = o := rfl
theorem sg_consS {o : Option V} {e : St} (i : Nat) : sg (o :: e) (i + 1) = sg e i := rfl
theorem isL_vals {ds : List PyData} (i : Nat) : isL (En.gt (ds.map .val) i) = false := by
  rw [gt_vals]
  cases ds[i]? <;> rfl
theorem sl_vals {us : List V} {ds : List PyData} (da : DpAll K Z us ds) (i : Nat) : SlotOk K Z H (En.gt (ds.map .val) i) (sg (us.map some) i) := by
  rw [gt_vals, sg_map]
  cases e : ds[i]? with
  | none => trivial
  | some d =>
    obtain ⟨u, e1, e2⟩ := dpa_at i da e
    exact ⟨u, e1, e2⟩
/-- the callee's start: values alone -/
theorem re_vals (r : RE K T Z H env σ) {us : List V} {ds : List PyData} (da : DpAll K Z us ds) : RE K T Z H (ds.map .val) (us.map some) :=
  ⟨by rw [List.length_map, List.length_map, dpa_len da], sl_vals da, fun i j a hi => absurd hi (by rw [isL_vals]; decide), r.ex, r.tb, r.pt⟩
/-- behind it -/
theorem stp_vals (r : RE K T Z H env σ) {us : List V} {ds : List PyData} {args' : En} (s : Stp K T (us.map some) Z H (ds.map .val) Z1 H1 args') : Stp K T σ Z H env Z1 H1 env := by
  have no : ∀ b, ¬ OwnAt (ds.map .val) (us.map some) b := fun b ⟨i, hi, _⟩ => by
    have h : isL (En.gt (ds.map .val) i) = true := by unfold isL; rw [hi]; rfl
    rw [isL_vals] at h
    cases h
  have ni : ∀ b, ¬ IoAt (ds.map .val) (us.map some) b := fun b ⟨i, hi, _⟩ => by
    have h : isL (En.gt (ds.map .val) i) = true := by unfold isL; rw [hi]; simp
    rw [isL_vals] at h
    cases h
  refine Stp.mk0 (r.mono s.mv.ez s.re.ex s.re.tb (fun i a us' hl e h => ⟨s.mv.kp a _ h (no a) (ni a) ntb_lst, ?_⟩) s.re.pt) (s.mv.mono (fun b z => absurd z (no b)) (fun b z => absurd z (ni b)))
  obtain ⟨_, _, z⟩ := r.ndom ⟨i, hl, e⟩
  cases q : Z1 a with
  | none => rfl
  | some o =>
    rcases s.mv.gr a (by rw [q]; simp) with h' | h' | h'
    · exact absurd z h'
    · rw [h] at h'; cases h'
    · exact absurd h' (no a)
/-- the callee's start: a list lent, values -/
theorem re_io (r : RE K T Z H env σ) {us : List V} {ds : List PyData} {i : Nat} {xs : List PyData} {a : Addr} (da : DpAll K Z us ds) (hm : rdM i env = some xs) (ha : sg σ i = some (.ref a)) : RE K T Z H (.io xs :: ds.map .val) ((V.ref a :: us).map some) := by
  obtain ⟨hs, hi⟩ := rdM_some hm
  have hl : isL (env.gt i) = true := by rcases hs with q | q <;> rw [q] <;> rfl
  have sl : LAt K Z H (sg σ i) xs := by
    have q := r.sl i
    rcases hs with z | z <;> rw [z] at q <;> exact q
  refine ⟨by simp [dpa_len da], fun j => ?_, fun i j b hi hj _ _ => ?_, r.ex, r.tb, r.pt⟩
  · cases j with
    | zero => rw [ha] at sl; exact sl
    | succ j => exact sl_vals da j
  · have h0 : ∀ j, isL (En.gt (Slot.io xs :: ds.map .val) j) = true → j = 0 := fun j h => by
      cases j with
      | zero => rfl
      | succ j =>
        rw [gt_consS, isL_vals] at h
        cases h
    rw [h0 i hi, h0 j hj]
theorem stp_io (r : RE K T Z H env σ) {us : List V} {ds : List PyData} {i : Nat} {xs ys : List PyData} {a : Addr} {rest : En} (hm : rdM i env = some xs) (ha : sg σ i = some (.ref a))
    (s : Stp K T ((V.ref a :: us).map some) Z H (.io xs :: ds.map .val) Z1 H1 (.io ys :: rest)) : Stp K T σ Z H env Z1 H1 (wrM i ys env) := by
  obtain ⟨hs, hi⟩ := rdM_some hm
  have lI : isL (env.gt i) = true := by rcases hs with q | q <;> rw [q] <;> rfl
  obtain ⟨us0, hH, hZ⟩ := r.ndom ⟨i, lI, ha⟩
  have no : ∀ b, ¬ OwnAt (.io xs :: ds.map .val) ((V.ref a :: us).map some) b := fun b ⟨j, hj, _⟩ => by
    cases j with
    | zero => cases hj
    | succ j =>
      rw [gt_consS] at hj
      have h : isL (En.gt (ds.map .val) j) = true := by unfold isL; rw [hj]; rfl
      rw [isL_vals] at h
      cases h
  have ni : ∀ b, IoAt (.io xs :: ds.map .val) ((V.ref a :: us).map some) b → b = a := fun b ⟨j, hj, e⟩ => by
    cases j with
    | zero =>
      have e' : some (V.ref a) = some (V.ref b) := e
      cases e'
      rfl
    | succ j =>
      rw [gt_consS] at hj
      have h : isL (En.gt (ds.map .val) j) = true := by unfold isL; rw [hj]; simp
      rw [isL_vals] at h
      cases h
  obtain ⟨a', us1, e1, h1, z1, d1⟩ := s.re.sl 0
  have e1' : some (V.ref a) = some (V.ref a') := e1
  cases e1'
  have g : ∀ j, (PL.wrM i ys env).gt j = if j = i then keepK (env.gt i) ys else env.gt j := fun j => by
    unfold PL.wrM
    by_cases c : j = i
    · subst c; rw [gt_set_same hi, if_pos rfl]
    · rw [gt_set_ne (fun z => c z.symm), if_neg c]
  have kk : isOwn (keepK (env.gt i) ys) = isOwn (env.gt i) ∧ isIo (keepK (env.gt i) ys) = isIo (env.gt i) ∧ isLk (keepK (env.gt i) ys) = isLk (env.gt i) := by
    rcases hs with q | q <;> rw [q] <;> exact ⟨rfl, rfl, rfl⟩
  have kl : ∀ j, isL ((PL.wrM i ys env).gt j) = isL (env.gt j) := fun j => by
    rw [g]
    by_cases c : j = i
    · subst c; rw [if_pos rfl]; unfold isL; rw [kk.1, kk.2.1, kk.2.2]
    · rw [if_neg c]
  have zn : ∀ b us, H b = some (.lst us) → Z b = none → Z1 b = none := fun b us hb hz => by
    cases q : Z1 b with
    | none => rfl
    | some o =>
      rcases s.mv.gr b (by rw [q]; simp) with h' | h' | h'
      · exact absurd hz h'
      · rw [hb] at h'; cases h'
      · exact absurd h' (no b)
  have own : OwnAt env σ a ∨ IoAt env σ a := by
    rcases hs with q | q
    · exact .inl ⟨i, by rw [q]; rfl, ha⟩
    · exact .inr ⟨i, by rw [q]; rfl, ha⟩
  refine ⟨⟨?_, fun j => ?_, fun j l b h1 h2 => ?_, s.re.ex, s.re.tb, s.re.pt⟩, ⟨s.mv.ez, fun b o q n1 n2 nt => ?_, s.mv.dm, fun b q => ?_⟩, fun j q => ?_, fun j => ?_, fun j => ?_⟩
  · unfold PL.wrM
    rw [List.length_set]
    exact r.len
  · by_cases c : j = i
    · subst c
      rw [g, if_pos rfl]
      rcases hs with q | q <;> rw [q] <;> exact ⟨a, us1, ha, h1, z1, d1⟩
    · rw [g, if_neg c]
      refine Slot.mono _ s.mv.ez (fun b us e1 l e2 => ?_) (r.sl j)
      have ne : b ≠ a := fun z => c (r.ap j i a l lI (z ▸ e1) ha)
      exact ⟨s.mv.kp b _ e2 (no b) (fun z => ne (ni b z)) ntb_lst, zn b us e2 ((r.ndom ⟨j, l, e1⟩).elim fun _ q => q.2)⟩
  · rw [kl] at h1 h2
    exact r.ap j l b h1 h2
  · refine s.mv.kp b o q (no b) (fun z => ?_) nt
    have := ni b z
    subst this
    rcases own with z | z
    · exact n1 z
    · exact n2 z
  · rcases s.mv.gr b q with h' | h' | h'
    · exact .inl h'
    · exact .inr (.inl h')
    · exact absurd h' (no b)
  · rw [g] at q
    by_cases c : j = i
    · subst c; rw [if_pos rfl, kk.1] at q; exact q
    · rw [if_neg c] at q; exact q
  · rw [g]
    by_cases c : j = i
    · subst c; rw [if_pos rfl, kk.2.1]
    · rw [if_neg c]
  · rw [g]
    by_cases c : j = i
    · subst c; rw [if_pos rfl, kk.2.2]
    · rw [if_neg c]
/-- a call of values -/
theorem use_callV {f : Nat} {us : List V} {ds : List PyData} (s : Stp K L.T σ Z H env Z1 H1 e1) (da : DpAll K Z1 us ds) (h : Post L K Ew σ Z H env (PG1 K H Q) (callV L.ft f ds e1)) : spF L K f us H1 Q Ew := by
  refine ⟨Z1, ds.map .val, re_vals s.re da, fun i hi => absurd hi (by rw [isL_vals]; decide), ?_⟩
  unfold callV at h
  cases e : L.ft f (ds.map .val) with
  | ok r args' =>
    rw [e] at h
    exact fun Z2 H2 s2 u g => h Z2 H2 (s.trans (stp_vals s.re s2)) u (got_base s.mv.dm g)
  | exc c x =>
    rw [e] at h
    exact ⟨isL_vals, fun Z2 H2 s2 C fld dd hc hd => h Z2 H2 (s.trans (stp_vals s.re s2)) C fld dd hc hd⟩
  | bad =>
    rw [e] at h
    exact h.elim
theorem use_callI {f i : Nat} {us : List V} {ds : List PyData} {a : Addr} (s : Stp K L.T σ Z H env Z1 H1 e1) (da : DpAll K Z1 us ds) (ha : sg σ i = some (.ref a)) (h : Post L K Ew σ Z H env (PG1 K H Q) (callI L.ft f i ds e1)) : spF L K f (V.ref a :: us) H1 Q Ew := by
  unfold callI at h
  cases em : rdM i e1 with
  | none =>
    rw [em] at h
    exact h.elim
  | some xs =>
    rw [em] at h
    dsimp only at h
    refine ⟨Z1, .io xs :: ds.map .val, re_io s.re da em ha, fun j hj => ?_, ?_⟩
    · cases j with
      | zero => rfl
      | succ j =>
        rw [gt_consS, isL_vals] at hj
        cases hj
    · cases e : L.ft f (.io xs :: ds.map .val) with
      | ok r args' =>
        rw [e] at h
        cases args' with
        | nil => exact h.elim
        | cons s0 rest =>
          cases s0 with
          | io ys => exact fun Z2 H2 s2 u g => h Z2 H2 (s.trans (stp_io s.re em ha s2)) u (got_base s.mv.dm g)
          | _ => exact h.elim
      | exc c x =>
        rw [e] at h
        exact h.elim
      | bad =>
        rw [e] at h
        exact h.elim
/-- a def that may be called -/
structure FnIn (L : Lk) (CX : CXT) (k : Nat) (X : Cx) (f : Nat) (x : Str) : Prop where
  nd : (x == ("__debug__" : Str)) = false
  ex : ∃ a fd ps, X.mg x = some (.ref a) ∧ PySem.W.keepIn X.K (.ref a) = true ∧ Binds X.K fd ps [] ∧ FnOk X.prog X.w X.K X.mg X.base CX k a fd ps (spF L X.K f) ∧
    ∀ ks perm, (f, ks, perm) ∈ L.kws → KBn X.K fd ps 0 ks (fun _ ws => perm.map fun j => ws.getD j .none) (fun _ zs => perm.map fun j => zs.getD j .non)
theorem c_call0 (c : Cq L CX k Ew N sc X) {f : Nat} {x : Str} {np pos : Pos} (fi : FnIn L CX k X f x) (g : isGl sc x = true) : PE X (.Call (.Name x np) [] [] pos) (tE L X.K Ew (.call f .nil)) := by
  obtain ⟨nd, a, fd, ps, hm, hk, hb, F, _⟩ := fi
  have hg : Gl X x := gl_of (by rw [c.sc]; exact g)
  refine peImp (pe_call0 (dvs := []) F c.room hg hm hk hb .nil c.pass nd) fun σ H Q q => ?_
  obtain ⟨Z, env, r0, h⟩ := q
  simp only [evE, evEs] at h
  exact use_callV (Stp.refl r0) .nil h
theorem c_call (c : Cq L CX k Ew N sc X) {f : Nat} {x : Str} {es : Es} {e' : Expr} {es' : List Expr} {np pos : Pos} (fi : FnIn L CX k X f x) (g : isGl sc x = true) (ns : (e' :: es').all notStar = true) (ha : PA X (e' :: es') (tEs L X.K Ew es)) : PE X (.Call (.Name x np) (e' :: es') [] pos) (tE L X.K Ew (.call f es)) := by
  obtain ⟨nd, a, fd, ps, hm, hk, hb, F, _⟩ := fi
  have hg : Gl X x := gl_of (by rw [c.sc]; exact g)
  rw [List.all_cons, Bool.and_eq_true] at ns
  refine peImp (pe_call (dvs := []) F c.room hg hm hk hb .nil c.pass ha nd (star_cons ns.1) (star_any ns.2)) fun σ H Q q => ?_
  obtain ⟨Z, env, r0, h⟩ := q
  simp only [evE] at h
  have : tEs L X.K Ew es σ H (fun us H1 => spF L X.K f us H1 Q Ew) := ⟨Z, env, r0, h.bind fun ds e1 Z1 H1 s1 h1 us da => use_callV s1 da h1⟩
  simpa [tCall] using this
theorem c_callIo (c : Cq L CX k Ew N sc X) {f i : Nat} {x y : Str} {es : Es} {es' : List Expr} {np yp pos : Pos} (fi : FnIn L CX k X f x) (g : isGl sc x = true) (hN : X.N[i]? = some y) (hv : isVis X.env.scope y = true) (hd : (y == ("__debug__" : Str)) = false) (hcd : (y == ("__classdict__" : Str)) = false)
    (ns : es'.all notStar = true) (ha : PA X es' (tEs L X.K Ew es)) : PE X (.Call (.Name x np) (.Name y yp :: es') [] pos) (tE L X.K Ew (.callIo f i es)) := by
  obtain ⟨nd, a, fd, ps, hm, hk, hb, F, _⟩ := fi
  have hg : Gl X x := gl_of (by rw [c.sc]; exact g)
  refine peImp (pe_call (dvs := []) F c.room hg hm hk hb .nil c.pass (pa_cons (pe_var hN (vis_of hv) hd hcd) ha rfl) nd rfl (star_any ns)) fun σ H Q q => ?_
  obtain ⟨Z, env, r0, h⟩ := q
  simp only [evE] at h
  split at h
  · exact h.elim
  · rename_i hm
    cases e0 : rdM i env with
    | none => rw [e0] at hm; exact absurd rfl hm
    | some xs0 =>
      obtain ⟨a0, us0, ea, hH, _⟩ := r0.mAt e0
      have : tEs L X.K Ew es σ H (fun us H1 => spF L X.K f (.ref a0 :: us) H1 Q Ew) := ⟨Z, env, r0, h.bind fun ds e1 Z1 H1 s1 h1 us da => use_callI s1 da ea h1⟩
      exact ⟨.ref a0, sg_some ea, by simpa using this⟩
/-! ### calls with keywords alone -/
theorem kw_each {env : Env} {pos : Pos} : ∀ {kws : List Keyword} {ks : List Str}, kws.map (·.arg) = ks.map some → (backToKw pos (keywordEach kws env)).all (·.1.isSome) = true ∧ (backToKw pos (keywordEach kws env)).filterMap (·.1) = ks ∧ (backToKw pos (keywordEach kws env)).any (·.1.isNone) = false
  | [], ks, h => by
    cases ks with
    | nil => exact ⟨rfl, rfl, rfl⟩
    | cons a b => cases h
  | ⟨nm, e, p⟩ :: kws, ks, h => by
    cases ks with
    | nil => cases h
    | cons a b =>
      simp only [List.map_cons, List.cons.injEq] at h
      obtain ⟨h1, h2⟩ := h
      subst h1
      obtain ⟨i1, i2, i3⟩ := kw_each (env := env) (pos := pos) h2
      refine ⟨?_, ?_, ?_⟩
      · show (true && (backToKw pos (keywordEach kws env)).all (·.1.isSome)) = true
        rw [i1]; rfl
      · show a :: (backToKw pos (keywordEach kws env)).filterMap (·.1) = a :: b
        rw [i2]
      · show (false || (backToKw pos (keywordEach kws env)).any (·.1.isNone)) = false
        rw [i3]; rfl
theorem k_nil : PK X [] (tEs L X.K Ew .nil) := ⟨fun pos pins s σ H Q I q => pk_nil.run pos pins s σ H Q I (by
  obtain ⟨Z, env, r0, h⟩ := q
  simp only [evEs] at h
  exact h Z H (Stp.refl r0) [] .nil)⟩
theorem k_cons {e : E} {es : Es} {e' : Expr} {nm : Option Str} {kp : Pos} {kws : List Keyword} (he : PE X e' (tE L X.K Ew e)) (hs : PK X kws (tEs L X.K Ew es)) : PK X (⟨nm, e', kp⟩ :: kws) (tEs L X.K Ew (.cons e es)) := ⟨fun pos pins s σ H Q I q => (pk_cons he hs).run pos pins s σ H Q I (by
  obtain ⟨Z, env, r0, h⟩ := q
  simp only [evEs] at h
  refine ⟨Z, env, r0, h.bind fun r e1 Z1 H1 s1 h1 u g => ?_⟩
  obtain ⟨Z2, s2, du⟩ := s1.toV r0 g
  refine ⟨Z2, e1, s2.re, (h1.step s2).bind fun ds e2 Z3 H3 s3 h3 us da => ?_⟩
  exact h3 Z3 H3 s3 (u :: us) (.cons (dp_mono s3.mv.ez _ du) da))⟩
theorem dpa_perm {us : List V} {ds : List PyData} (da : DpAll K Z us ds) : ∀ {perm : List Nat} {vs : List PyData}, (perm.mapM fun j => ds[j]?) = some vs → DpAll K Z (perm.map fun j => us.getD j .non) vs
  | [], vs, h => by
    cases h
    exact .nil
  | j :: perm, vs, h => by
    rw [List.mapM_cons] at h
    cases e : ds[j]? with
    | none => rw [e] at h; cases h
    | some d =>
      rw [e] at h
      cases e2 : perm.mapM fun j => ds[j]? with
      | none =>
        simp only [e2] at h
        cases h
      | some ws =>
        simp only [e2] at h
        cases h
        obtain ⟨u, e3, e4⟩ := dpa_at j da e
        refine .cons ?_ (dpa_perm da e2)
        show Dp K Z (us.getD j .non) d
        rw [List.getD_eq_getElem?_getD, e3]
        exact e4
theorem c_callK (c : Cq L CX k Ew N sc X) {f : Nat} {x : Str} {es : Es} {kws : List Keyword} {ks : List Str} {perm : List Nat} {np pos : Pos} (fi : FnIn L CX k X f x) (g : isGl sc x = true) (hks : kws.map (·.arg) = ks.map some) (hin : (f, ks, perm) ∈ L.kws) (hp : perm.length = ks.length) (ha : PK X kws (tEs L X.K Ew es)) :
    PE X (.Call (.Name x np) [] kws pos) (tE L X.K Ew (.callK f perm es)) := by
  obtain ⟨nd, a, fd, ps, hm, hk, hb, F, hK⟩ := fi
  have hg : Gl X x := gl_of (by rw [c.sc]; exact g)
  refine ⟨fun pins s σ H Q I h => ?_⟩
  obtain ⟨i1, i2, i3⟩ := kw_each (env := X.env) (pos := pos) hks
  obtain ⟨Z, env, r0, h⟩ := h
  simp only [evE] at h
  have : tEs L X.K Ew es σ H (fun us H1 => us.length = ks.length ∧ spF L X.K f (perm.map fun j => us.getD j .non) H1 Q Ew) := ⟨Z, env, r0, h.bind fun ds e1 Z1 H1 s1 h1 us da => by
    split at h1
    · rename_i hl
      have ld := dpa_len da
      split at h1
      · rename_i vs e
        exact ⟨by omega, use_callV s1 (dpa_perm da e) h1⟩
      · exact h1.elim
    · exact h1.elim⟩
  refine wpAny_Call_Name_kw (ld_glob I hg hm ?_ nd)
  refine PySem.W.callWith_KW0 (h₀ := X.base) I.ok.mod.kin hk i1 ?_ (by rw [i3]; rfl)
  refine thn (ha.run pos pins s σ H _ I this) fun ws s2 ⟨zs, H2, I2, rz, hl, q2⟩ => ⟨I2.kIn, ?_⟩
  rw [i2]
  exact run_fnN F c.room (hK ks perm hin) c.pass I2 .nil rz rfl hl q2
end
end PL

/-! part PLIt -/
set_option Elab.async false
set_option linter.all false
set_option autoImplicit false
set_option maxRecDepth 100000
set_option maxHeartbeats 4000000
/-! walks over lists and tuples of any mix: enumerate, zip of two and three -/
namespace PL
open PySem PySem.Spec PyProof.Rows L2

def SqS (K : PySem.W.Frag) (l : Bool) (H : Hp) (a : Addr) (us : List V) : Prop := match l with
  | true => SqL K H a us
  | false => SqT K H a us
def SI (l : Bool) (h : Heap) (it a : Addr) (i : Nat) : Prop := match l with
  | true => h.IsListIter it a i
  | false => h.IsTupleIter it a i
def IsSq (l : Bool) (h : Heap) (a : Addr) (its : Array Value) : Prop := match l with
  | true => h.IsList a its
  | false => h.IsTuple a its
def iterO (l : Bool) (a : Addr) : Obj := match l with
  | true => { cls := .type "list_iterator", data := .fields #[.ref a, .int 0 0] }
  | false => { cls := .type "tuple_iterator", data := .fields #[.ref a, .int 0 0] }
theorem SI.at {l : Bool} {h h' : Heap} {it a : Addr} {i : Nat} (x : SI l h it a i) (e : ∀ o, h.get? it = some o → h'.get? it = some o) : SI l h' it a i := by
  cases l with
  | true => exact Heap.IsListIter.at x e
  | false => exact Heap.IsTupleIter.at x e
theorem SI.obj {l : Bool} {h : Heap} {it a : Addr} {i : Nat} (x : SI l h it a i) : ∃ o, h.get? it = some o ∧ ∀ v, o.data ≠ .cell v := by
  cases l with
  | true =>
    obtain ⟨o, ho, hc, hd⟩ := (show h.IsListIter it a i from x)
    exact ⟨o, ho, fun v q => by rw [hd] at q; cases q⟩
  | false =>
    obtain ⟨o, ho, hc, hd⟩ := (show h.IsTupleIter it a i from x)
    exact ⟨o, ho, fun v q => by rw [hd] at q; cases q⟩
theorem SI.of {l : Bool} {h : Heap} {it a : Addr} (e : h.get? it = some (iterO l a)) : SI l h it a 0 := by
  cases l with
  | true => exact ⟨_, e, rfl, rfl⟩
  | false => exact ⟨_, e, rfl, rfl⟩
theorem IsSq.lt {l : Bool} {h : Heap} {a : Addr} {its : Array Value} (x : IsSq l h a its) : a < h.objs.size := by
  cases l with
  | true =>
    obtain ⟨o, ho, _⟩ := (show h.IsList a its from x)
    exact Heap.lt_size ho
  | false =>
    obtain ⟨o, ho, _⟩ := (show h.IsTuple a its from x)
    exact Heap.lt_size ho
theorem drawsS {prog : Program} {w : World} {A : Around} (l : Bool) (hh : A.handled = none) (it a : Addr) (hne : a ≠ it) (its : Array Value) :
    Draws prog w A it [it, a] its.size (fun i v => its[i]? = some v) (fun i h => SI l h it a i ∧ IsSq l h a its) := by
  cases l with
  | true => exact Draws.list hh it a hne its
  | false => exact Draws.tuple hh it a hne its
theorem beginsS (l : Bool) (a : Addr) (its : Array Value) : Begins (.ref a) (iterO l a) (fun h => IsSq l h a its) := by
  cases l with
  | true => exact begins_list a its
  | false => exact begins_tuple a its
theorem Inv.sq {X : Cx} {pins : List (Addr × Obj)} {σ : St} {H : Hp} {s : Shared} (I : Inv X pins σ H s) {l : Bool} {a : Addr} {us : List V} (h : SqS X.K l H a us) : ∃ its : List Value, Vals us its ∧ IsSq l s.heap a its.toArray ∧ us.length ≤ sizeLine := by
  cases l with
  | true =>
    obtain ⟨its, r, p, z⟩ := I.list (show SqL X.K H a us from h)
    exact ⟨its, r, p.isList, z⟩
  | false =>
    obtain ⟨its, r, p, z⟩ := I.tuple (show SqT X.K H a us from h)
    exact ⟨its, r, p, z⟩

/-- pairs or triples in new tuples -/
def JP (B : Hp → Prop) (n : Nat) (f : Nat → List V) : L2.It :=
  ⟨fun i H => i < n ∧ B H, fun i H v H' => ∃ T, v = .ref T ∧ H T = none ∧ H' = upd H T (.tup (f i)), fun i H => i = n ∧ B H⟩
theorem turn_gen {P : Program} {w : World} {K : PySem.W.Frag} {elts : List Expr} {kk : Nat} {tpos : Pos} {B : Hp → Prop} {n : Nat} {f : Nat → List V} {z : Addr} {fp : List Addr} {tn : Nat → Heap → Prop} (hz : z ∈ fp) (hf : ∀ i, (f i).length ≤ 3)
    (obj : ∀ i h, tn i h → ∀ b ∈ fp, ∃ o, h.get? b = some o ∧ ∀ v, o.data ≠ .cell v) (keep : ∀ i h h', tn i h → (∀ b ∈ fp, ∀ o, h.get? b = some o → h'.get? b = some o) → tn i h')
    (self : ∀ (A : Around) (i : Nat) (s : Shared) (Q : Value → Shared → Prop) (E : Value → Shared → Prop), tn i s.heap → Q (.ref z) s → wpAny (model P w) A (pyIter (.ref z)) Q E s)
    (WW : ∀ (X : Cx), X.prog = P → X.w = w → X.K = K → X.calm = true → ∀ (pins : List (Addr × Obj)) (s : Shared) (σ : St) (H : Hp), Inv X pins σ H s → B H → ∀ i, tn i s.heap →
      ∃ fp' wr Pt St Mid, WalksT P w X.A z fp' wr n Pt St Mid ∧ St i s.heap ∧ (∀ b ∈ wr, b ∈ fp) ∧ (∀ i vals, Pt i vals → Vals (f i) vals.toList) ∧ (∀ h, (∀ b o, b ∉ wr → s.heap.get? b = some o → h.get? b = some o) → St (i + 1) h → tn (i + 1) h)) :
    Turn P w K (.Tuple elts kk tpos) (JP B n f) fp z tn where
  mem := hz
  obj := obj
  keep := keep
  item := by
    intro X hP hw hK hc i pins s σ H E I hfp st hg
    obtain ⟨fp', wr, Pt, St, Mid, W, h0, hwr, hv, hn⟩ := WW X hP hw hK hc pins s σ H I hg.2 i st
    subst hP hw hK
    refine W.item i s _ E hg.1 h0 fun T vals h' tk hp hle hT hM hk => ⟨_, rfl, W.go elts kk tpos i T { s with heap := h', toks := tk } _ E hM fun h'' hst hk2 => ?_⟩
    have lt : ∀ b ∈ fp, b < s.heap.objs.size := fun b hb => by
      obtain ⟨o, e, _⟩ := obj _ _ st b hb
      exact Heap.lt_size e
    have hTw : T ∉ wr := fun z => absurd (lt T (hwr T z)) (Nat.not_lt.mpr hle)
    have hT2 : h''.IsTuple T vals := by
      obtain ⟨o, e, r⟩ := hT
      exact ⟨o, hk2 T o hTw e, r⟩
    have k3 : ∀ b o, b ∉ wr → s.heap.get? b = some o → h''.get? b = some o := fun b o hb q => hk2 b o hb (hk b o hb q)
    have new : ObjOk X.prog X.w (upd H T (.tup (f i))) h'' T (.tup (f i)) := ⟨by rw [sizeLine_eq]; have := hf i; omega, vals.toList, hv i vals hp, hT2⟩
    have I1 : Inv X pins σ (upd H T (.tup (f i))) { s with heap := h'', toks := tk } := I.turnedNew (ch := wr) k3 (fun b hb => hfp b (hwr b hb)) hle new
    refine ⟨.ref T, _, I1, rfl, ⟨T, rfl, I.hok.fresh hle, rfl⟩, hn h'' k3 hst, fun b hb => ?_⟩
    rw [upd_ne (Nat.ne_of_lt (Nat.lt_of_lt_of_le (lt b hb) hle))]
    exact (hfp b hb).1
  done := by
    intro X hP hw hK hc i pins s σ H E I hfp st hg
    obtain ⟨fp', wr, Pt, St, Mid, W, h0, hwr, hv, hn⟩ := WW X hP hw hK hc pins s σ H I hg.2 i st
    subst hP hw hK
    have e := hg.1
    subst e
    exact W.done s _ E h0 fun h' tk hk => ⟨rfl, I.turnedL (t' := tk) (ch := wr) hk fun b hb => hfp b (hwr b hb)⟩
  self := self

/-! ### enumerate -/
theorem meets_enum0 {v : Value} {o : Obj} {H : Heap → Prop} (B : Begins v o H) :
    Meets (Builtin.«enumerate.__new__» ⟨[.type "enumerate", v], []⟩) (fun _ R s => H s.heap ∧
      R (.ok (.ret (.ref (s.heap.push o).objs.size))) { s with heap := (s.heap.push o).push { cls := .type "enumerate", data := .fields #[.none, .bool false, .ref s.heap.objs.size, rawInt 0, .none, .none] } }) :=
  .of_wp fun prog w A R s h => by
    obtain ⟨hp, g, d, tk, os⟩ := s; obtain ⟨h1, h⟩ := h
    have hsub := sub_enumerate
    have q1 : ∀ {A' : Around} {E : Value → Shared → Prop} {Q : Value → Shared → Prop}, Q (.ref hp.objs.size) ⟨hp.push o, g, d, tk, os⟩ → wpAny (model prog w) A' (pyIter v) Q E ⟨hp, g, d, tk, os⟩ :=
      fun q => B.iter prog w _ _ ⟨hp, g, d, tk, os⟩ _ h1 q
    wp_walk using q1
    refine wpAny_stack_any fun st => wpAny_pure ?_
    split
    · rename_i c _ _ _ _ _
      cases (c == Value.type "enumerate")
      · wp_walk using q1
        exact ⟨_, rfl, h⟩
      · wp_walk using q1
        exact ⟨_, rfl, h⟩
    · wp_walk using q1
      exact ⟨_, rfl, h⟩
theorem enum_begins0 {prog : Program} {w : World} {A : Around} {E : Value → Shared → Prop} {s : Shared} {v : Value} {o : Obj} {H : Heap → Prop} {Q : Value → Shared → Prop} (B : Begins v o H) (h1 : H s.heap)
    (h : ∀ h', IsEnum h' (s.heap.objs.size + 1) s.heap.objs.size 0 .none → h'.get? s.heap.objs.size = some o → h'.objs.size = s.heap.objs.size + 2 →
      (∀ b o, s.heap.get? b = some o → h'.get? b = some o) → Q (.ref (s.heap.objs.size + 1)) { s with heap := h' }) :
    wpAny (model prog w) A (call (.type "enumerate") [v]) Q E s := by
  refine callType_new F.called_enumerate (by decide) (F.typeCall_enumerate_1 _) (F.newCall_enumerate_1 _) (fun obj => F.args_object_init_2 obj _) F.entry_enumerate_new
    (meets_enum0 B) ⟨h1, ?_⟩
  have hz : (s.heap.push o).objs.size = s.heap.objs.size + 1 := Heap.size_push ..
  show _ ∧ _
  rw [hz]
  have he : IsEnum ((s.heap.push o).push { cls := .type "enumerate", data := .fields #[.none, .bool false, .ref s.heap.objs.size, rawInt 0, .none, .none] }) (s.heap.objs.size + 1) s.heap.objs.size 0 .none := by
    have := Heap.get?_push_size (s.heap.push o) (o := { cls := .type "enumerate", data := .fields #[.none, .bool false, .ref s.heap.objs.size, rawInt 0, .none, .none] }) rfl
    rw [hz] at this; exact this
  refine ⟨⟨_, he, rfl⟩, h _ he (Heap.get?_push_of_some _ (Heap.get?_push_size _ B.free)) (by rw [Heap.size_push, hz]) fun b o x => Heap.get?_push_of_some _ (Heap.get?_push_of_some _ x)⟩
def fEnum (us : List V) (i : Nat) : List V := [.int (i : Nat), us.getD i .non]
theorem val_getD {us : List V} {its : List Value} (r : Vals us its) {i : Nat} {x : Value} (h : its.toArray[i]? = some x) : RelV (us.getD i .non) x := by
  have hi : its[i]? = some x := by simpa using h
  have hl := r.length
  have h2 : i < us.length := by
    have := (List.getElem?_eq_some_iff.mp hi).1
    omega
  obtain ⟨w', e1, r1⟩ := r.get (i := i) (x := us[i]) (List.getElem?_eq_getElem h2)
  rw [hi] at e1
  cases e1
  rw [List.getD_eq_getElem?_getD, List.getElem?_eq_getElem h2]
  exact r1
theorem turn_enumS {P : Program} {w : World} {K : PySem.W.Frag} {elts : List Expr} {kk : Nat} {tpos : Pos} (l : Bool) (a : Addr) (us : List V) (e it : Addr) (hne : e ≠ it) (hae : a ≠ e) (hai : a ≠ it) :
    Turn P w K (.Tuple elts kk tpos) (JP (fun H => SqS K l H a us) us.length (fEnum us)) [e, it] e (fun i h => (∃ old, IsEnum h e it ((i : Nat) : Int) old) ∧ SI l h it a i) := by
  refine turn_gen (by simp) (fun i => by show 2 ≤ 3; omega) (fun i h st b hb => ?_) (fun i h h' st k => ?_) (fun A i s Q E st h => let ⟨⟨_, he⟩, _⟩ := st; wpAny_pyIter_enum he h) fun X hP hw hK hc pins s σ H I hB i st => ?_
  · obtain ⟨⟨old, he⟩, hi⟩ := st
    have e' : b = e ∨ b = it := by simpa using hb
    rcases e' with z | z
    · rw [z]; exact ⟨_, he, fun v q => nomatch q⟩
    · rw [z]; exact hi.obj
  · obtain ⟨⟨old, he⟩, hi⟩ := st
    exact ⟨⟨old, k e (by simp) _ he⟩, hi.at fun o q => k it (by simp) o q⟩
  · subst hP hw hK
    obtain ⟨its, rv, hs, hz⟩ := Inv.sq I hB
    obtain ⟨he, hi⟩ := st
    have hn : its.toArray.size = us.length := by rw [List.size_toArray]; exact rv.length.symm
    refine ⟨_, _, _, _, _, hn ▸ WalksT.enumerateD (drawsS (prog := X.prog) (w := X.w) (A := X.A.in1) l (I.ok.hd hc) it a hai its.toArray) e hne (by simp [hne, Ne.symm hae]) (by simp), ⟨he, hi, hs⟩, fun b hb => hb, fun j vals hp => ?_, fun h _ hst => ⟨hst.1, hst.2.1⟩⟩
    obtain ⟨t, x, hx, rfl⟩ := hp
    exact .cons ⟨_, rfl⟩ (.cons (val_getD rv hx) .nil)
/-! ### zip -/
def fZip2 (us ws : List V) (i : Nat) : List V := [us.getD i .non, ws.getD i .non]
theorem turn_zip2S {P : Program} {w : World} {K : PySem.W.Frag} {elts : List Expr} {kk : Nat} {tpos : Pos} (l1 l2 : Bool) (a b : Addr) (us ws : List V) (z TI TO i1 i2 : Addr) (S : ZipSep2 z TI TO i1 i2 [i1, a] [i2, b]) (h1 : a ≠ i1) (h2 : b ≠ i2) :
    Turn P w K (.Tuple elts kk tpos) (JP (fun H => SqS K l1 H a us ∧ SqS K l2 H b ws) (min us.length ws.length) (fZip2 us ws)) [z, TI, TO, i1, i2] z
      (fun i h => IsZip h z TI TO .none ∧ IsTupOf2 h TI (.ref i1) (.ref i2) ∧ (∃ x y, IsTupOf2 h TO x y) ∧ SI l1 h i1 a i ∧ SI l2 h i2 b i) := by
  refine turn_gen (by simp) (fun i => by show 2 ≤ 3; omega) (fun i h st c hc => ?_) (fun i h h' st k => ?_) (fun A i s Q E st h => wpAny_pyIter_zip st.1 h) fun X hP hw hK hc pins s σ H I hB i st => ?_
  · obtain ⟨hz, hTI, ⟨x, y, hTO⟩, q1, q2⟩ := st
    have e' : c = z ∨ c = TI ∨ c = TO ∨ c = i1 ∨ c = i2 := by simpa using hc
    rcases e' with q | q | q | q | q
    · rw [q]; exact ⟨_, hz, fun v q => nomatch q⟩
    · rw [q]; exact ⟨_, hTI, fun v q => nomatch q⟩
    · rw [q]; exact ⟨_, hTO, fun v q => nomatch q⟩
    · rw [q]; exact q1.obj
    · rw [q]; exact q2.obj
  · obtain ⟨hz, hTI, ⟨x, y, hTO⟩, q1, q2⟩ := st
    exact ⟨k z (by simp) _ hz, k TI (by simp) _ hTI, ⟨x, y, k TO (by simp) _ hTO⟩, q1.at fun o q => k i1 (by simp) o q, q2.at fun o q => k i2 (by simp) o q⟩
  · subst hP hw hK
    obtain ⟨its, rv, hs, hz⟩ := Inv.sq I hB.1
    obtain ⟨its2, rv2, hs2, hz2⟩ := Inv.sq I hB.2
    obtain ⟨hz, hTI, hTO, q1, q2⟩ := st
    have hn : min its.toArray.size its2.toArray.size = min us.length ws.length := by rw [List.size_toArray, List.size_toArray, rv.length, rv2.length]
    refine ⟨_, _, _, _, _, hn ▸ WalksT.zipD2 S (drawsS (prog := X.prog) (w := X.w) (A := X.A.in1) l1 (I.ok.hd hc) i1 a h1 its.toArray) (drawsS (prog := X.prog) (w := X.w) (A := X.A.in1) l2 (I.ok.hd hc) i2 b h2 its2.toArray), ⟨hz, hTI, hTO, ⟨q1, hs⟩, q2, hs2⟩, fun c hc => ?_, fun j vals hp => ?_, fun h _ hst => ⟨hst.1, hst.2.1, hst.2.2.1, hst.2.2.2.1.1, hst.2.2.2.2.1⟩⟩
    · have e' : c = z ∨ c = TO ∨ c = i1 ∨ c = i2 := by simpa using hc
      rcases e' with q | q | q | q <;> rw [q] <;> simp
    · obtain ⟨x, y, hx, hy, rfl⟩ := hp
      exact .cons (val_getD rv hx) (.cons (val_getD rv2 hy) .nil)
def fZip3 (us ws vs : List V) (i : Nat) : List V := [us.getD i .non, ws.getD i .non, vs.getD i .non]
theorem turn_zip3S {P : Program} {w : World} {K : PySem.W.Frag} {elts : List Expr} {kk : Nat} {tpos : Pos} (l1 l2 l3 : Bool) (a b c : Addr) (us ws vs : List V) (z TI TO i1 i2 i3 : Addr) (S : ZipSep3 z TI TO i1 i2 i3 [i1, a] [i2, b] [i3, c]) (h1 : a ≠ i1) (h2 : b ≠ i2) (h3 : c ≠ i3) :
    Turn P w K (.Tuple elts kk tpos) (JP (fun H => SqS K l1 H a us ∧ SqS K l2 H b ws ∧ SqS K l3 H c vs) (min (min us.length ws.length) vs.length) (fZip3 us ws vs)) [z, TI, TO, i1, i2, i3] z
      (fun i h => IsZip h z TI TO .none ∧ IsTupOf3 h TI (.ref i1) (.ref i2) (.ref i3) ∧ (∃ x y u, IsTupOf3 h TO x y u) ∧ SI l1 h i1 a i ∧ SI l2 h i2 b i ∧ SI l3 h i3 c i) := by
  refine turn_gen (by simp) (fun i => by show 3 ≤ 3; omega) (fun i h st c hc => ?_) (fun i h h' st k => ?_) (fun A i s Q E st h => wpAny_pyIter_zip st.1 h) fun X hP hw hK hc pins s σ H I hB i st => ?_
  · obtain ⟨hz, hTI, ⟨x, y, u, hTO⟩, q1, q2, q3⟩ := st
    have e' : c = z ∨ c = TI ∨ c = TO ∨ c = i1 ∨ c = i2 ∨ c = i3 := by simpa using hc
    rcases e' with q | q | q | q | q | q
    · rw [q]; exact ⟨_, hz, fun v q => nomatch q⟩
    · rw [q]; exact ⟨_, hTI, fun v q => nomatch q⟩
    · rw [q]; exact ⟨_, hTO, fun v q => nomatch q⟩
    · rw [q]; exact q1.obj
    · rw [q]; exact q2.obj
    · rw [q]; exact q3.obj
  · obtain ⟨hz, hTI, ⟨x, y, u, hTO⟩, q1, q2, q3⟩ := st
    exact ⟨k z (by simp) _ hz, k TI (by simp) _ hTI, ⟨x, y, u, k TO (by simp) _ hTO⟩, q1.at fun o q => k i1 (by simp) o q, q2.at fun o q => k i2 (by simp) o q, q3.at fun o q => k i3 (by simp) o q⟩
  · subst hP hw hK
    obtain ⟨its, rv, hs, hz⟩ := Inv.sq I hB.1
    obtain ⟨its2, rv2, hs2, hz2⟩ := Inv.sq I hB.2.1
    obtain ⟨its3, rv3, hs3, hz3⟩ := Inv.sq I hB.2.2
    obtain ⟨hz, hTI, hTO, q1, q2, q3⟩ := st
    have hn : min (min its.toArray.size its2.toArray.size) its3.toArray.size = min (min us.length ws.length) vs.length := by rw [List.size_toArray, List.size_toArray, List.size_toArray, rv.length, rv2.length, rv3.length]
    refine ⟨_, _, _, _, _, hn ▸ WalksT.zipD3 S (drawsS (prog := X.prog) (w := X.w) (A := X.A.in1) l1 (I.ok.hd hc) i1 a h1 its.toArray) (drawsS (prog := X.prog) (w := X.w) (A := X.A.in1) l2 (I.ok.hd hc) i2 b h2 its2.toArray) (drawsS (prog := X.prog) (w := X.w) (A := X.A.in1) l3 (I.ok.hd hc) i3 c h3 its3.toArray), ⟨hz, hTI, hTO, ⟨q1, hs⟩, ⟨q2, hs2⟩, q3, hs3⟩, fun c hc => ?_, fun j vals hp => ?_, fun h _ hst => ⟨hst.1, hst.2.1, hst.2.2.1, hst.2.2.2.1.1, hst.2.2.2.2.1.1, hst.2.2.2.2.2.1⟩⟩
    · have e' : c = z ∨ c = TO ∨ c = i1 ∨ c = i2 ∨ c = i3 := by simpa using hc
      rcases e' with q | q | q | q | q <;> rw [q] <;> simp
    · obtain ⟨x, y, u, hx, hy, hu, rfl⟩ := hp
      exact .cons (val_getD rv hx) (.cons (val_getD rv2 hy) (.cons (val_getD rv3 hu) .nil))
end PL

/-! part PLWk -/
set_option Elab.async false
set_option linter.all false
set_option autoImplicit false
set_option maxRecDepth 100000
set_option maxHeartbeats 4000000
/-! what a for walks over -/
namespace PL
open PySem PySem.Spec PyProof.Rows L2

structure Src where
  l : Bool
  a : Addr
  us : List V
  xs : List PyData
def SrcH (K : PySem.W.Frag) (Z H : Hp) (s : Src) : Prop := SqS K s.l H s.a s.us ∧ DpAll K Z s.us s.xs
def SrcIn (K : PySem.W.Frag) (σ : St) (Z H : Hp) (env : En) (lks : List Nat) (s : Src) : Prop :=
  DpAll K Z s.us s.xs ∧ (SqS K s.l Z s.a s.us ∨ (s.l = true ∧ H s.a = some (.lst s.us) ∧ ∃ i ∈ lks, isL (env.gt i) = true ∧ sg σ i = some (.ref s.a)))
/-- what a turn gives -/
def Yl (K : PySem.W.Frag) (b : Bool) (Z H : Hp) (x : V) (H' : Hp) (d : PyData) : Prop := (H' = H ∧ Dp K Z x d) ∨ ∃ p us es, b = true ∧ H p = none ∧ x = .ref p ∧ H' = upd H p (.tup us) ∧ d = .tuple es ∧ DpAll K Z us es
structure WkOk (b : Bool) (K : PySem.W.Frag) (J : L2.It) (ds : List PyData) (ss : List Src) : Prop where
  go : ∀ Z H i, (∀ s ∈ ss, SrcH K Z H s) → i < ds.length → J.go i H
  yld : ∀ Z H i x H' d, (∀ s ∈ ss, SrcH K Z H s) → J.yld i H x H' → ds[i]? = some d → Yl K b Z H x H' d
  stop : ∀ Z H, (∀ s ∈ ss, SrcH K Z H s) → J.stop ds.length H
section
variable {L : Lk} {CX : CXT} {k : Nat} {Ew : XK} {N : List Str} {sc : Scope} {X : Cx} {K : PySem.W.Frag} {T : Tb} {σ : St} {Z H Z1 H1 Z2 H2 : Hp} {env e1 : En} {Q : VK} {tg : Expr}
def tI (L : Lk) (K : PySem.W.Frag) (Ew : XK) (it : It) : L2.TI := fun σ H R => ∃ Z env, RE K L.T Z H env σ ∧ Post L K Ew σ Z H env (fun xs e1 Z1 H1 => ∀ J ss, WkOk it.pr K J xs ss → (∀ s ∈ ss, SrcIn K σ Z1 H1 e1 it.lk s) → R J H1) (evIt L.ft L.gl it env)
theorem sq_ex {l : Bool} {a : Addr} {us : List V} (e : Ex Z H) (h : SqS K l Z a us) : SqS K l H a us := by
  cases l with
  | true => exact ex_l e h
  | false => exact ex_t e h
theorem SrcIn.h (r : RE K T Z H env σ) {lks : List Nat} {s : Src} (h : SrcIn K σ Z H env lks s) : SrcH K Z H s := by
  obtain ⟨da, h | ⟨e, h, _⟩⟩ := h
  · exact ⟨sq_ex r.ex h, da⟩
  · refine ⟨?_, da⟩
    rw [e]
    exact .inl (.inl h)
/-- an operand's source -/
theorem src_of (r : RE K T Z H env σ) {o : O} {x : Option RV} {u : V} (h : Hold K σ Z o x u) {d : PyData} {xs : List PyData} (e : rsO o x env = some d) (es : seqOf d = some xs) : ∃ s : Src, u = .ref s.a ∧ s.xs = xs ∧ SrcIn K σ Z H env o.lk s := by
  have val : ∀ {d : PyData} {u : V} {xs : List PyData} {lks : List Nat}, Dp K Z u d → seqOf d = some xs → ∃ s : Src, u = .ref s.a ∧ s.xs = xs ∧ SrcIn K σ Z H env lks s := fun {d u xs lks} hd es => by
    cases d with
    | list ys =>
      cases es
      cases hd with
      | lst h1 h2 => exact ⟨⟨true, _, _, _⟩, rfl, rfl, h2, .inl h1⟩
    | tuple ys =>
      cases es
      cases hd with
      | tup h1 h2 => exact ⟨⟨false, _, _, _⟩, rfl, rfl, h2, .inl h1⟩
    | _ => cases es
  cases o with
  | e y =>
    cases x with
    | none => cases e
    | some q =>
      cases e
      exact val h es
  | b i =>
    cases x with
    | some q => exact h.elim
    | none =>
      have hu : sg σ i = some u := h
      have e : rdB i env = some d := e
      have q := r.sl i
      have ll : ∀ {ys : List PyData}, isL (env.gt i) = true → LAt K Z H (sg σ i) ys → some (PyData.list ys) = some d → ∃ s : Src, u = .ref s.a ∧ s.xs = xs ∧ SrcIn K σ Z H env (O.b i).lk s := fun {ys} hl la e => by
        obtain ⟨a, us, e1, e2, e3, e4⟩ := la
        rw [hu] at e1
        cases e1
        cases e
        cases es
        exact ⟨⟨true, a, us, _⟩, rfl, rfl, e4, .inr ⟨rfl, e2, i, by simp [O.lk], hl, hu⟩⟩
      unfold PL.rdB at e
      split at e
      · rename_i x z
        cases e
        rw [z] at q
        obtain ⟨u', e1, e2⟩ := q
        rw [hu] at e1
        cases e1
        exact val e2 es
      · rename_i x z
        rw [z] at q
        exact ll (by rw [z]; rfl) q e
      · rename_i x z
        rw [z] at q
        exact ll (by rw [z]; rfl) q e
      · rename_i x z
        rw [z] at q
        exact ll (by rw [z]; rfl) q e
      · cases e

/-! ### ranges -/
theorem wk_rng {b : Bool} {lo : Int} {n : Nat} : WkOk b K (Itr lo n) (rngD lo n) [] := by
  have hl : (rngD lo n).length = n := by unfold rngD; rw [List.length_map, List.length_range]
  refine ⟨fun Z H i _ h => by rw [hl] at h; exact h, fun Z H i x H' d _ y e => ?_, fun Z H _ => by rw [hl]; exact Nat.le_refl _⟩
  obtain ⟨rfl, rfl⟩ := y
  have hi : i < n := by
    have := (List.getElem?_eq_some_iff.mp e).1
    rw [hl] at this
    exact this
  unfold rngD at e
  rw [List.getElem?_map, List.getElem?_range hi] at e
  cases e
  exact .inl ⟨rfl, .int _⟩
theorem wk_down {b : Bool} {i : Int} {n : Nat} : WkOk b K (Itc i (-1) n) ((List.range n).map fun k => .int (i - (k : Nat))) [] := by
  have hl : ((List.range n).map fun k => PyData.int (i - (k : Nat))).length = n := by rw [List.length_map, List.length_range]
  refine ⟨fun Z H i _ h => by rw [hl] at h; exact h, fun Z H j x H' d _ y e => ?_, fun Z H _ => by rw [hl]; exact Nat.le_refl _⟩
  obtain ⟨rfl, rfl⟩ := y
  have hi : j < n := by
    have := (List.getElem?_eq_some_iff.mp e).1
    rw [hl] at this
    exact this
  rw [List.getElem?_map, List.getElem?_range hi] at e
  cases e
  refine .inl ⟨rfl, ?_⟩
  have : i + (j : Int) * -1 = i - (j : Nat) := by omega
  rw [this]
  exact .int _
theorem small_of {i : Int} (h : smallI i = true) : -(2 ^ 62) ≤ i ∧ i < 2 ^ 62 := by
  unfold smallI at h
  simp only [Bool.and_eq_true, decide_eq_true_eq] at h
  exact h
theorem pa1 {e : Expr} {te : TE} (ns : notStar e = true) (h : PE X e te) : PA X [e] (tCons te tNil) := pa_cons h pa_nil (star_cons ns)
theorem star1 {e : Expr} {env : Env} (ns : notStar e = true) : starEach [e] env = [(false, eval e env)] := star_cons ns
theorem c_r1 (c : Cq L CX k Ew N sc X) {a : E} {a' : Expr} {p pos : Pos} (g : isGl sc "range" = true) (ns : notStar a' = true) (ha : PE X a' (tE L X.K Ew a)) : PI X tg (.Call (.Name "range" p) [a'] [] pos) (tI L X.K Ew (.r1 a)) := ⟨fun pins s σ H R I h => by
  refine (pi_range1 (gl_of (by rw [c.sc]; exact g)) (c.blt _ (blt_in (by decide))) (pa1 ns ha) (star1 ns)).run pins s σ H R I ?_
  obtain ⟨Z, env, r0, h⟩ := h
  simp only [evIt] at h
  refine ⟨Z, env, r0, h.bind fun x e1 Z1 H1 s1 h1 u g => ?_⟩
  obtain ⟨xs, e, hp⟩ := h1.lift
  cases hx : x.d with
  | int j =>
    rw [hx] at e
    obtain ⟨hs, rfl⟩ := itesome (show (if smallI j = true then _ else none) = some xs from e)
    obtain ⟨b1, b2⟩ := small_of hs
    exact ⟨j, by rw [dp_intv g hx], b1, b2, hp Z1 H1 s1 _ [] wk_rng (fun s hs => by cases hs)⟩
  | _ => rw [hx] at e; cases e⟩
theorem c_r2 (c : Cq L CX k Ew N sc X) {a b : E} {a' b' : Expr} {p pos : Pos} (g : isGl sc "range" = true) (ns : notStar a' = true) (ns2 : notStar b' = true) (ha : PE X a' (tE L X.K Ew a)) (hb : PE X b' (tE L X.K Ew b)) : PI X tg (.Call (.Name "range" p) [a', b'] [] pos) (tI L X.K Ew (.r2 a b)) := ⟨fun pins s σ H R I h => by
  refine (pi_range2 (gl_of (by rw [c.sc]; exact g)) (c.blt _ (blt_in (by decide))) (pa2 ns ns2 ha hb) (by rw [star_cons ns, star1 ns2]) (star1 ns2)).run pins s σ H R I ?_
  obtain ⟨Z, env, r0, h⟩ := h
  simp only [evIt] at h
  refine ⟨Z, env, r0, h.bind fun x e1 Z1 H1 s1 h1 u g => ?_⟩
  obtain ⟨Z2, s2, du⟩ := s1.toV r0 g
  refine ⟨Z2, e1, s2.re, (h1.step s2).bind fun y e2 Z3 H3 s3 h3 v g3 => ?_⟩
  obtain ⟨xs, e, hp⟩ := h3.lift
  cases hx : x.d with
  | int i =>
    cases hy : y.d with
    | int j =>
      rw [hx, hy] at e
      obtain ⟨hs, rfl⟩ := itesome (show (if (smallI i && smallI j) = true then _ else none) = some xs from e)
      rw [Bool.and_eq_true] at hs
      obtain ⟨b1, b2⟩ := small_of hs.1
      obtain ⟨b3, b4⟩ := small_of hs.2
      exact ⟨i, j, by rw [dp_intv g hx, dp_intv g3 hy], ⟨b1, b2, b3, b4⟩, hp Z3 H3 s3 _ [] wk_rng (fun s hs => by cases hs)⟩
    | _ => rw [hx, hy] at e; cases e
  | _ => rw [hx] at e; cases e⟩
theorem c_r3 (c0 : Cq L CX k Ew N sc X) {a b c : E} {a' b' c' : Expr} {p pos : Pos} (g : isGl sc "range" = true) (ns : notStar a' = true) (ns2 : notStar b' = true) (ns3 : notStar c' = true) (ha : PE X a' (tE L X.K Ew a)) (hb : PE X b' (tE L X.K Ew b)) (hc : PE X c' (tE L X.K Ew c)) :
    PI X tg (.Call (.Name "range" p) [a', b', c'] [] pos) (tI L X.K Ew (.r3 a b c)) := ⟨fun pins s σ H R I h => by
  refine (pi_range3 (gl_of (by rw [c0.sc]; exact g)) (c0.blt _ (blt_in (by decide))) (pa_cons ha (pa_cons hb (pa1 ns3 hc) (star_cons ns2)) (star_cons ns)) (star_cons ns) (star_any (by simp [ns2, ns3]))).run pins s σ H R I ?_
  obtain ⟨Z, env, r0, h⟩ := h
  simp only [evIt] at h
  refine ⟨Z, env, r0, h.bind fun x e1 Z1 H1 s1 h1 u g => ?_⟩
  obtain ⟨Z2, s2, du⟩ := s1.toV r0 g
  refine ⟨Z2, e1, s2.re, (h1.step s2).bind fun y e2 Z3 H3 s3 h3 v g3 => ?_⟩
  obtain ⟨Z4, s4, dv⟩ := s3.toV s2.re g3
  refine ⟨Z4, e2, s4.re, (h3.step s4).bind fun z e3 Z5 H5 s5 h5 w' g5 => ?_⟩
  obtain ⟨xs, e, hp⟩ := h5.lift
  cases hx : x.d with
  | int i =>
    cases hy : y.d with
    | int j =>
      cases hz : z.d with
      | int m =>
        rw [hx, hy, hz] at e
        obtain ⟨hs, rfl⟩ := itesome (show (if (smallI i && smallI j && decide (m = -1)) = true then _ else none) = some xs from e)
        simp only [Bool.and_eq_true, decide_eq_true_eq] at hs
        obtain ⟨b1, b2⟩ := small_of hs.1.1
        obtain ⟨b3, b4⟩ := small_of hs.1.2
        exact ⟨i, j, m, (i - j).toNat, by rw [dp_intv g hx, dp_intv g3 hy, dp_intv g5 hz], by rw [hs.2]; exact RgC.neg b1 b2 b3 b4, by rw [hs.2]; exact hp Z5 H5 s5 _ [] wk_down (fun s hs => by cases hs)⟩
      | _ => rw [hx, hy, hz] at e; cases e
    | _ => rw [hx, hy] at e; cases e
  | _ => rw [hx] at e; cases e⟩
end
end PL

/-! part PLWk2 -/
set_option Elab.async false
set_option linter.all false
set_option autoImplicit false
set_option maxRecDepth 100000
set_option maxHeartbeats 4000000
namespace PL
open PySem PySem.Spec PyProof.Rows L2
section
variable {L : Lk} {CX : CXT} {k : Nat} {Ew : XK} {N : List Str} {sc : Scope} {X : Cx} {K : PySem.W.Frag} {T : Tb} {σ : St} {Z H Z1 H1 Z2 H2 : Hp} {env e1 : En} {Q : VK} {tg : Expr}
/-! ### a list or a tuple itself -/
def ItS (K : PySem.W.Frag) (l : Bool) (a : Addr) : L2.It := match l with
  | true => Itl K a
  | false => Itt K a
def iSeqS (K : PySem.W.Frag) (tl : TE) : L2.TI := fun σ H R => tl σ H fun x H1 => ∃ a l us, x = .ref a ∧ SqS K l H1 a us ∧ R (ItS K l a) H1
theorem pi_seqS {l : Expr} {tl : TE} (hl : PE X l tl) : PI X tg l (iSeqS X.K tl) := by
  refine ⟨fun pins s σ H R I h => ?_⟩
  refine thn (hl.run pins s σ H _ I h) fun v s1 ⟨x, H1, I1, r1, q1⟩ => ?_
  obtain ⟨a, l, us, e, hq, q⟩ := q1
  subst e
  cases r1
  cases l with
  | true =>
    obtain ⟨its, rv, p, hz⟩ := I1.list (show SqL X.K H1 a us from hq)
    refine wpAny_pyIter_list p.isList ?_
    refine ⟨s1.heap.objs.size, [s1.heap.objs.size], _, _, H1, rfl, I1.kept (t' := s1.toks) fun b o e => Heap.get?_push_of_some _ e, turn_list a _, ⟨_, Heap.get?_push_size _ rfl, rfl, rfl⟩, fun b hb => ?_, q⟩
    have e : b = s1.heap.objs.size := by simpa using hb
    subst e
    exact I1.fpOk (Nat.le_refl _) (I1.hok.fresh (Nat.le_refl _))
  | false =>
    obtain ⟨its, rv, p, hz⟩ := I1.tuple (show SqT X.K H1 a us from hq)
    refine wpAny_pyIter_tuple (show s1.heap.IsTuple a its.toArray from p) ?_
    refine ⟨s1.heap.objs.size, [s1.heap.objs.size], _, _, H1, rfl, I1.kept (t' := s1.toks) fun b o e => Heap.get?_push_of_some _ e, turn_tuple a _, ⟨_, Heap.get?_push_size _ rfl, rfl, rfl⟩, fun b hb => ?_, q⟩
    have e : b = s1.heap.objs.size := by simpa using hb
    subst e
    exact I1.fpOk (Nat.le_refl _) (I1.hok.fresh (Nat.le_refl _))
theorem dpa_lt {us : List V} {ds : List PyData} (da : DpAll K Z us ds) {i : Nat} (h : i < ds.length) : ∃ u, us[i]? = some u ∧ Dp K Z u ds[i] := dpa_at i da (List.getElem?_eq_getElem h)
theorem wk_seq {b : Bool} (s : Src) : WkOk b K (ItS K s.l s.a) s.xs [s] := by
  refine ⟨fun Z H i h hi => ?_, fun Z H i x H' d h y e => ?_, fun Z H h => ?_⟩
  · obtain ⟨h1, h2⟩ := h s (by simp)
    obtain ⟨u, e1, _⟩ := dpa_lt h2 hi
    cases hl : s.l with
    | true => rw [hl] at h1; exact ⟨s.us, u, h1, e1⟩
    | false => rw [hl] at h1; exact ⟨s.us, u, h1, e1⟩
  · obtain ⟨h1, h2⟩ := h s (by simp)
    obtain ⟨u, e1, e2⟩ := dpa_at i h2 e
    cases hl : s.l with
    | true =>
      rw [hl] at h1 y
      obtain ⟨rfl, y⟩ := y
      have := y s.us h1
      rw [e1] at this
      cases this
      exact .inl ⟨rfl, e2⟩
    | false =>
      rw [hl] at h1 y
      obtain ⟨rfl, y⟩ := y
      have := y s.us h1
      rw [e1] at this
      cases this
      exact .inl ⟨rfl, e2⟩
  · obtain ⟨h1, h2⟩ := h s (by simp)
    have := dpa_len h2
    cases hl : s.l with
    | true => rw [hl] at h1; exact ⟨s.us, h1, by omega⟩
    | false => rw [hl] at h1; exact ⟨s.us, h1, by omega⟩
theorem c_seq {o : O} {a' : Expr} (ha : PE X a' (tO L X.K Ew o)) : PI X tg a' (tI L X.K Ew (.seq o)) := ⟨fun pins s σ H R I h => by
  refine (pi_seqS ha).run pins s σ H R I ?_
  obtain ⟨Z, env, r0, h⟩ := h
  simp only [evIt] at h
  refine ⟨Z, env, r0, h.bind fun x e1 Z1 H1 s1 h1 u g => ?_⟩
  obtain ⟨Z2, s2, hd⟩ := Hold.of r0 s1 g
  obtain ⟨xs, e, hp⟩ := h1.lift
  obtain ⟨d, e2, e3⟩ := bindSome e
  obtain ⟨sr, rfl, rfl, si⟩ := src_of s2.re hd e2 e3
  exact ⟨sr.a, sr.l, sr.us, rfl, (si.h s2.re).1, hp Z2 H1 s2 _ [sr] (wk_seq sr) (fun s hs => by
    rw [List.mem_singleton] at hs
    rw [hs]
    exact si)⟩⟩
/-! ### enumerate -/
def iEnumS (K : PySem.W.Frag) (ta : TA) : L2.TI := fun σ H R => ta σ H fun vs H1 => ∃ a l us, vs = [.ref a] ∧ SqS K l H1 a us ∧ R (JP (fun H => SqS K l H a us) us.length (fEnum us)) H1
theorem pi_enumS {e : Expr} {ta : TA} {p pos tpos : Pos} {elts : List Expr} {kk : Nat} (hg : Gl X "enumerate") (hm : X.mg "enumerate" = none) (ha : PA X [e] ta) (hs : starEach [e] X.env = [(false, eval e X.env)]) :
    PI X (.Tuple elts kk tpos) (.Call (.Name "enumerate" p) [e] [] pos) (iEnumS X.K ta) := by
  refine ⟨fun pins s σ H R I h => ?_⟩
  refine Call_ (ld_blt I hg hm boot_enumerate (PyProof.Rows.callWith_type1 (thn (ha.run pos pins s σ H _ I h) fun us s1 ⟨vs, H1, I1, r1, q1⟩ => ?_) hs rfl))
  obtain ⟨a, l, xs, ex, hq, q⟩ := q1
  subst ex
  cases r1 with
  | cons r rr =>
    cases rr
    cases r
    obtain ⟨its, rv, hsq, hz⟩ := Inv.sq I1 hq
    refine enum_begins0 (beginsS l a its.toArray) hsq fun h' he hit hsz hk => wpAny_pyIter_enum he ?_
    have I2 : Inv X pins σ H1 { s1 with heap := h' } := I1.kept (t' := s1.toks) hk
    have la := hsq.lt
    refine ⟨s1.heap.objs.size + 1, [s1.heap.objs.size + 1, s1.heap.objs.size], _, _, H1, rfl, I2, turn_enumS l a xs (s1.heap.objs.size + 1) s1.heap.objs.size (Nat.succ_ne_self _) (Nat.ne_of_lt (Nat.lt_succ_of_lt la)) (Nat.ne_of_lt la), ⟨⟨.none, he⟩, SI.of hit⟩, fun b hb => ?_, q⟩
    have e' : b = s1.heap.objs.size + 1 ∨ b = s1.heap.objs.size := by simpa using hb
    have hle : s1.heap.objs.size ≤ b := by
      rcases e' with z | z
      · rw [z]; exact Nat.le_add_right _ _
      · rw [z]; exact Nat.le_refl _
    exact I1.fpOk hle (I1.hok.fresh hle)
theorem wk_enum (s : Src) : WkOk true K (JP (fun H => SqS K s.l H s.a s.us) s.us.length (fEnum s.us)) (enumD s.xs) [s] := by
  have len : ∀ {Z : Hp}, DpAll K Z s.us s.xs → (enumD s.xs).length = s.us.length := fun da => by
    unfold enumD
    rw [List.length_zipWith, List.length_range, dpa_len da]
    simp
  refine ⟨fun Z H i h hi => ?_, fun Z H i x H' d h y e => ?_, fun Z H h => ?_⟩
  · obtain ⟨h1, h2⟩ := h s (by simp)
    rw [len h2] at hi
    exact ⟨hi, h1⟩
  · obtain ⟨h1, h2⟩ := h s (by simp)
    obtain ⟨T, rfl, hn, rfl⟩ := y
    have hi := (List.getElem?_eq_some_iff.mp e).1
    rw [len h2, dpa_len h2] at hi
    obtain ⟨u, e1, e2⟩ := dpa_lt h2 hi
    unfold enumD at e
    rw [List.getElem?_zipWith, List.getElem?_range hi, List.getElem?_eq_getElem hi] at e
    cases e
    refine .inr ⟨T, _, _, rfl, hn, rfl, rfl, rfl, .cons (.int _) (.cons ?_ .nil)⟩
    rw [List.getD_eq_getElem?_getD, e1]
    exact e2
  · obtain ⟨h1, h2⟩ := h s (by simp)
    exact ⟨len h2, h1⟩
theorem c_enum (c : Cq L CX k Ew N sc X) {o : O} {a' : Expr} {p pos tpos : Pos} {elts : List Expr} {kk : Nat} (g : isGl sc "enumerate" = true) (ns : notStar a' = true) (ha : PE X a' (tO L X.K Ew o)) : PI X (.Tuple elts kk tpos) (.Call (.Name "enumerate" p) [a'] [] pos) (tI L X.K Ew (.enum o)) := ⟨fun pins s σ H R I h => by
  refine (pi_enumS (gl_of (by rw [c.sc]; exact g)) (c.blt _ (blt_in (by decide))) (pa1 ns ha) (star1 ns)).run pins s σ H R I ?_
  obtain ⟨Z, env, r0, h⟩ := h
  simp only [evIt] at h
  refine ⟨Z, env, r0, h.bind fun x e1 Z1 H1 s1 h1 u g => ?_⟩
  obtain ⟨Z2, s2, hd⟩ := Hold.of r0 s1 g
  obtain ⟨ys, e, hp⟩ := h1.lift
  obtain ⟨xs, e0, rfl⟩ := optmap e
  obtain ⟨d, e2, e3⟩ := bindSome e0
  obtain ⟨sr, rfl, rfl, si⟩ := src_of s2.re hd e2 e3
  exact ⟨sr.a, sr.l, sr.us, rfl, (si.h s2.re).1, hp Z2 H1 s2 _ [sr] (wk_enum sr) (fun s hs => by
    rw [List.mem_singleton] at hs
    rw [hs]
    exact si)⟩⟩
/-! ### zip -/
def iZip2S (K : PySem.W.Frag) (ta : TA) : L2.TI := fun σ H R => ta σ H fun vs H1 => ∃ a l us b m ws, vs = [.ref a, .ref b] ∧ SqS K l H1 a us ∧ SqS K m H1 b ws ∧ R (JP (fun H => SqS K l H a us ∧ SqS K m H b ws) (min us.length ws.length) (fZip2 us ws)) H1
theorem ne_add {a n : Addr} (h : a < n) (m : Nat) : a ≠ n + m := Nat.ne_of_lt (Nat.lt_of_lt_of_le h (Nat.le_add_right _ _))
theorem sep2 {n a b : Addr} (ha : a < n) (hb : b < n) : ZipSep2 (n + 4) (n + 2) (n + 3) n (n + 1) [n, a] [n + 1, b] := by
  have ha : (a : Nat) < n := ha
  have hb : (b : Nat) < n := hb
  constructor <;> (try simp only [List.mem_cons, List.not_mem_nil, or_false, not_or, ne_eq]) <;> (try unfold Addr at *) <;> first | omega | (constructor <;> omega) | exact .inl trivial
theorem sep3 {n a b c : Addr} (ha : a < n) (hb : b < n) (hc : c < n) : ZipSep3 (n + 5) (n + 3) (n + 4) n (n + 1) (n + 2) [n, a] [n + 1, b] [n + 2, c] := by
  have ha : (a : Nat) < n := ha
  have hb : (b : Nat) < n := hb
  have hc : (c : Nat) < n := hc
  constructor <;> (try simp only [List.mem_cons, List.not_mem_nil, or_false, not_or, ne_eq]) <;> (try unfold Addr at *) <;> first | omega | (constructor <;> omega) | exact .inl trivial
theorem pi_zip2S {e e2 : Expr} {ta : TA} {p pos tpos : Pos} {elts : List Expr} {kk : Nat} (hg : Gl X "zip") (hm : X.mg "zip" = none) (ha : PA X [e, e2] ta) (n1 : notStar e = true) (n2 : notStar e2 = true) :
    PI X (.Tuple elts kk tpos) (.Call (.Name "zip" p) [e, e2] [] pos) (iZip2S X.K ta) := by
  refine ⟨fun pins s σ H R I h => ?_⟩
  refine Call_ (ld_blt I hg hm PyProof.Rows.boot_zip (PyProof.Rows.callWith_type1 (thn (ha.run pos pins s σ H _ I h) fun us s1 ⟨vs, H1, I1, r1, q1⟩ => ?_) (star_cons n1) (star_any (by simp [n2]))))
  obtain ⟨a, l, xs, b, m, ys, ex, hq, hq2, q⟩ := q1
  subst ex
  cases r1 with
  | cons r rr =>
    cases rr with
    | cons r2 rr =>
      cases rr
      cases r
      cases r2
      obtain ⟨its, rv, hsq, hz⟩ := Inv.sq I1 hq
      obtain ⟨its2, rv2, hsq2, hz2⟩ := Inv.sq I1 hq2
      refine zip_begins2 (beginsS l a its.toArray) (beginsS m b its2.toArray) hsq hsq2 fun h' hzz hTI hTO h1 h2 hsz hk => wpAny_pyIter_zip hzz ?_
      have I2 : Inv X pins σ H1 { s1 with heap := h' } := I1.kept (t' := s1.toks) hk
      have la := hsq.lt
      have lb := hsq2.lt
      refine ⟨s1.heap.objs.size + 4, [s1.heap.objs.size + 4, s1.heap.objs.size + 2, s1.heap.objs.size + 3, s1.heap.objs.size, s1.heap.objs.size + 1], _, _, H1, rfl, I2, turn_zip2S l m a b xs ys _ _ _ _ _ (sep2 la lb) (Nat.ne_of_lt la) (ne_add lb 1), ⟨hzz, hTI, ⟨_, _, hTO⟩, SI.of h1, SI.of h2⟩, fun c hcm => ?_, q⟩
      have e' : c = s1.heap.objs.size + 4 ∨ c = s1.heap.objs.size + 2 ∨ c = s1.heap.objs.size + 3 ∨ c = s1.heap.objs.size ∨ c = s1.heap.objs.size + 1 := by simpa using hcm
      have hle : s1.heap.objs.size ≤ c := by
        rcases e' with z | z | z | z | z <;> rw [z] <;> first | exact Nat.le_add_right _ _ | exact Nat.le_refl _
      exact I1.fpOk hle (I1.hok.fresh hle)
theorem zipD_get {xs ys : List PyData} {i : Nat} {d : PyData} (e : (zipD xs ys)[i]? = some d) : ∃ a b, xs[i]? = some a ∧ ys[i]? = some b ∧ d = .tuple [a, b] := by
  unfold zipD at e
  rw [List.getElem?_zipWith] at e
  cases h1 : xs[i]? with
  | none => rw [h1] at e; cases e
  | some a =>
    cases h2 : ys[i]? with
    | none => rw [h1, h2] at e; cases e
    | some b =>
      rw [h1, h2] at e
      cases e
      exact ⟨a, b, rfl, rfl, rfl⟩
theorem dp_getD {us : List V} {xs : List PyData} (da : DpAll K Z us xs) {i : Nat} {d : PyData} (e : xs[i]? = some d) : Dp K Z (us.getD i .non) d := by
  obtain ⟨u, e1, e2⟩ := dpa_at i da e
  rw [List.getD_eq_getElem?_getD, e1]
  exact e2
theorem wk_zip2 (s t : Src) : WkOk true K (JP (fun H => SqS K s.l H s.a s.us ∧ SqS K t.l H t.a t.us) (min s.us.length t.us.length) (fZip2 s.us t.us)) (zipD s.xs t.xs) [s, t] := by
  have len : ∀ {Z : Hp}, DpAll K Z s.us s.xs → DpAll K Z t.us t.xs → (zipD s.xs t.xs).length = min s.us.length t.us.length := fun da db => by
    unfold zipD
    rw [List.length_zipWith, dpa_len da, dpa_len db]
  refine ⟨fun Z H i h hi => ?_, fun Z H i x H' d h y e => ?_, fun Z H h => ?_⟩
  · obtain ⟨h1, h2⟩ := h s (by simp)
    obtain ⟨h3, h4⟩ := h t (by simp)
    rw [len h2 h4] at hi
    exact ⟨hi, h1, h3⟩
  · obtain ⟨h1, h2⟩ := h s (by simp)
    obtain ⟨h3, h4⟩ := h t (by simp)
    obtain ⟨T, rfl, hn, rfl⟩ := y
    obtain ⟨a, b, ea, eb, rfl⟩ := zipD_get e
    exact .inr ⟨T, _, _, rfl, hn, rfl, rfl, rfl, .cons (dp_getD h2 ea) (.cons (dp_getD h4 eb) .nil)⟩
  · obtain ⟨h1, h2⟩ := h s (by simp)
    obtain ⟨h3, h4⟩ := h t (by simp)
    exact ⟨len h2 h4, h1, h3⟩
theorem SrcIn.mono {s : Src} {lks : List Nat} (h : SrcIn K σ Z H env lks s) (r : RE K T Z H env σ) (st : Stp K T σ Z H env Z1 H1 e1) (hl : ∀ i ∈ lks, isL (env.gt i) = true → isL (e1.gt i) = true) (own : ∀ i ∈ lks, isL (env.gt i) = true → sg σ i = some (.ref s.a) → H1 s.a = H s.a) : SrcIn K σ Z1 H1 e1 lks s := by
  obtain ⟨da, h⟩ := h
  refine ⟨dpa_mono st.mv.ez _ da, ?_⟩
  rcases h with h | ⟨h1, h2, i, hi, h3, h4⟩
  · exact .inl (sq_ex st.mv.ez h)
  · exact .inr ⟨h1, by rw [own i hi h3 h4]; exact h2, i, hi, hl i hi h3, h4⟩
theorem SrcIn.more {s : Src} {l1 l2 : List Nat} (h : SrcIn K σ Z H env l1 s) (hs : ∀ i ∈ l1, i ∈ l2) : SrcIn K σ Z H env l2 s := by
  obtain ⟨da, h⟩ := h
  refine ⟨da, ?_⟩
  rcases h with h | ⟨h1, h2, i, hi, h3⟩
  · exact .inl h
  · exact .inr ⟨h1, h2, i, hs i hi, h3⟩
theorem c_zip2 (c : Cq L CX k Ew N sc X) {a b : O} {a' b' : Expr} {p pos tpos : Pos} {elts : List Expr} {kk : Nat} (g : isGl sc "zip" = true) (n1 : notStar a' = true) (n2 : notStar b' = true) (ha : PE X a' (tO L X.K Ew a)) (hb : PE X b' (tO L X.K Ew b)) :
    PI X (.Tuple elts kk tpos) (.Call (.Name "zip" p) [a', b'] [] pos) (tI L X.K Ew (.zip a b)) := ⟨fun pins s σ H R I h => by
  refine (pi_zip2S (gl_of (by rw [c.sc]; exact g)) (c.blt _ (blt_in (by decide))) (pa2 n1 n2 ha hb) n1 n2).run pins s σ H R I ?_
  obtain ⟨Z, env, r0, h⟩ := h
  simp only [evIt] at h
  refine ⟨Z, env, r0, h.bind fun x e1 Z1 H1 s1 h1 u g => ?_⟩
  obtain ⟨Z2, s2, hd⟩ := Hold.of r0 s1 g
  refine ⟨Z2, e1, s2.re, (h1.step s2).bind fun y e2 Z3 H3 s3 h3 v g3 => ?_⟩
  obtain ⟨Z4, s4, hd2⟩ := Hold.of s2.re s3 g3
  obtain ⟨zs, e, hp⟩ := h3.lift
  obtain ⟨xs, e0, e⟩ := bindSome e
  obtain ⟨ys, e00, rfl⟩ := optmap e
  obtain ⟨d, e5, e6⟩ := bindSome e0
  obtain ⟨d2, e7, e8⟩ := bindSome e00
  obtain ⟨sr, rfl, rfl, si⟩ := src_of s4.re (hd.mono s4.mv.ez) e5 e6
  obtain ⟨sr2, rfl, rfl, si2⟩ := src_of s4.re hd2 e7 e8
  refine ⟨sr.a, sr.l, sr.us, sr2.a, sr2.l, sr2.us, rfl, (si.h s4.re).1, (si2.h s4.re).1, hp Z4 H3 s4 _ [sr, sr2] (wk_zip2 sr sr2) (fun s hs => ?_)⟩
  have e' : s = sr ∨ s = sr2 := by simpa using hs
  rcases e' with q | q
  · rw [q]; exact si.more fun i hi => by simp [It.lk, hi]
  · rw [q]; exact si2.more fun i hi => by simp [It.lk, hi]⟩
def iZip3S (K : PySem.W.Frag) (ta : TA) : L2.TI := fun σ H R => ta σ H fun vs H1 => ∃ a l us b m ws c n xs, vs = [.ref a, .ref b, .ref c] ∧ SqS K l H1 a us ∧ SqS K m H1 b ws ∧ SqS K n H1 c xs ∧
  R (JP (fun H => SqS K l H a us ∧ SqS K m H b ws ∧ SqS K n H c xs) (min (min us.length ws.length) xs.length) (fZip3 us ws xs)) H1
theorem pi_zip3S {e e2 e3 : Expr} {ta : TA} {p pos tpos : Pos} {elts : List Expr} {kk : Nat} (hg : Gl X "zip") (hm : X.mg "zip" = none) (ha : PA X [e, e2, e3] ta) (n1 : notStar e = true) (n2 : notStar e2 = true) (n3 : notStar e3 = true) :
    PI X (.Tuple elts kk tpos) (.Call (.Name "zip" p) [e, e2, e3] [] pos) (iZip3S X.K ta) := by
  refine ⟨fun pins s σ H R I h => ?_⟩
  refine Call_ (ld_blt I hg hm PyProof.Rows.boot_zip (PyProof.Rows.callWith_type1 (thn (ha.run pos pins s σ H _ I h) fun us s1 ⟨vs, H1, I1, r1, q1⟩ => ?_) (star_cons n1) (star_any (by simp [n2, n3]))))
  obtain ⟨a, l, xs, b, m, ys, c, n, zs, ex, hq, hq2, hq3, q⟩ := q1
  subst ex
  cases r1 with
  | cons r rr =>
    cases rr with
    | cons r2 rr =>
      cases rr with
      | cons r3 rr =>
        cases rr
        cases r
        cases r2
        cases r3
        obtain ⟨its, rv, hsq, hz⟩ := Inv.sq I1 hq
        obtain ⟨its2, rv2, hsq2, hz2⟩ := Inv.sq I1 hq2
        obtain ⟨its3, rv3, hsq3, hz3⟩ := Inv.sq I1 hq3
        refine zip_begins3 (beginsS l a its.toArray) (beginsS m b its2.toArray) (beginsS n c its3.toArray) hsq hsq2 hsq3 fun h' hzz hTI hTO h1 h2 h3 hsz hk => wpAny_pyIter_zip hzz ?_
        have I2 : Inv X pins σ H1 { s1 with heap := h' } := I1.kept (t' := s1.toks) hk
        have la := hsq.lt
        have lb := hsq2.lt
        have lc := hsq3.lt
        refine ⟨s1.heap.objs.size + 5, [s1.heap.objs.size + 5, s1.heap.objs.size + 3, s1.heap.objs.size + 4, s1.heap.objs.size, s1.heap.objs.size + 1, s1.heap.objs.size + 2], _, _, H1, rfl, I2, turn_zip3S l m n a b c xs ys zs _ _ _ _ _ _ (sep3 la lb lc) (Nat.ne_of_lt la) (ne_add lb 1) (ne_add lc 2), ⟨hzz, hTI, ⟨_, _, _, hTO⟩, SI.of h1, SI.of h2, SI.of h3⟩, fun c hcm => ?_, q⟩
        have e' : c = s1.heap.objs.size + 5 ∨ c = s1.heap.objs.size + 3 ∨ c = s1.heap.objs.size + 4 ∨ c = s1.heap.objs.size ∨ c = s1.heap.objs.size + 1 ∨ c = s1.heap.objs.size + 2 := by simpa using hcm
        have hle : s1.heap.objs.size ≤ c := by
          rcases e' with z | z | z | z | z | z <;> rw [z] <;> first | exact Nat.le_add_right _ _ | exact Nat.le_refl _
        exact I1.fpOk hle (I1.hok.fresh hle)
theorem zip3D_get : ∀ {xs ys zs : List PyData} {i : Nat} {d : PyData}, (zip3D xs ys zs)[i]? = some d → ∃ a b c, xs[i]? = some a ∧ ys[i]? = some b ∧ zs[i]? = some c ∧ d = .tuple [a, b, c]
  | a :: xs, b :: ys, c :: zs, 0, d, e => by
    cases e
    exact ⟨a, b, c, rfl, rfl, rfl, rfl⟩
  | a :: xs, b :: ys, c :: zs, i + 1, d, e => by
    obtain ⟨a, b, c, h1, h2, h3, h4⟩ := zip3D_get (show (zip3D xs ys zs)[i]? = some d from e)
    exact ⟨a, b, c, h1, h2, h3, h4⟩
  | [], _, _, i, d, e => by simp [zip3D] at e
  | _ :: _, [], _, i, d, e => by simp [zip3D] at e
  | _ :: _, _ :: _, [], i, d, e => by simp [zip3D] at e
theorem zip3D_len : ∀ xs ys zs : List PyData, (zip3D xs ys zs).length = min (min xs.length ys.length) zs.length
  | a :: xs, b :: ys, c :: zs => by
    show (zip3D xs ys zs).length + 1 = _
    rw [zip3D_len xs ys zs]
    simp only [List.length_cons]
    omega
  | [], _, _ => by simp [zip3D]
  | _ :: _, [], _ => by simp [zip3D]
  | _ :: _, _ :: _, [] => by simp [zip3D]
theorem wk_zip3 (s t v : Src) : WkOk true K (JP (fun H => SqS K s.l H s.a s.us ∧ SqS K t.l H t.a t.us ∧ SqS K v.l H v.a v.us) (min (min s.us.length t.us.length) v.us.length) (fZip3 s.us t.us v.us)) (zip3D s.xs t.xs v.xs) [s, t, v] := by
  have len : ∀ {Z : Hp}, DpAll K Z s.us s.xs → DpAll K Z t.us t.xs → DpAll K Z v.us v.xs → (zip3D s.xs t.xs v.xs).length = min (min s.us.length t.us.length) v.us.length := fun da db dc => by
    rw [zip3D_len, dpa_len da, dpa_len db, dpa_len dc]
  refine ⟨fun Z H i h hi => ?_, fun Z H i x H' d h y e => ?_, fun Z H h => ?_⟩
  · obtain ⟨h1, h2⟩ := h s (by simp)
    obtain ⟨h3, h4⟩ := h t (by simp)
    obtain ⟨h5, h6⟩ := h v (by simp)
    rw [len h2 h4 h6] at hi
    exact ⟨hi, h1, h3, h5⟩
  · obtain ⟨h1, h2⟩ := h s (by simp)
    obtain ⟨h3, h4⟩ := h t (by simp)
    obtain ⟨h5, h6⟩ := h v (by simp)
    obtain ⟨T, rfl, hn, rfl⟩ := y
    obtain ⟨a, b, c, ea, eb, ec, rfl⟩ := zip3D_get e
    exact .inr ⟨T, _, _, rfl, hn, rfl, rfl, rfl, .cons (dp_getD h2 ea) (.cons (dp_getD h4 eb) (.cons (dp_getD h6 ec) .nil))⟩
  · obtain ⟨h1, h2⟩ := h s (by simp)
    obtain ⟨h3, h4⟩ := h t (by simp)
    obtain ⟨h5, h6⟩ := h v (by simp)
    exact ⟨len h2 h4 h6, h1, h3, h5⟩
theorem c_zip3 (c0 : Cq L CX k Ew N sc X) {a b c : O} {a' b' c' : Expr} {p pos tpos : Pos} {elts : List Expr} {kk : Nat} (g : isGl sc "zip" = true) (n1 : notStar a' = true) (n2 : notStar b' = true) (n3 : notStar c' = true) (ha : PE X a' (tO L X.K Ew a)) (hb : PE X b' (tO L X.K Ew b)) (hc : PE X c' (tO L X.K Ew c)) :
    PI X (.Tuple elts kk tpos) (.Call (.Name "zip" p) [a', b', c'] [] pos) (tI L X.K Ew (.zip3 a b c)) := ⟨fun pins s σ H R I h => by
  refine (pi_zip3S (gl_of (by rw [c0.sc]; exact g)) (c0.blt _ (blt_in (by decide))) (pa_cons ha (pa_cons hb (pa1 n3 hc) (star_cons n2)) (star_cons n1)) n1 n2 n3).run pins s σ H R I ?_
  obtain ⟨Z, env, r0, h⟩ := h
  simp only [evIt] at h
  refine ⟨Z, env, r0, h.bind fun x e1 Z1 H1 s1 h1 u g => ?_⟩
  obtain ⟨Z2, s2, hd⟩ := Hold.of r0 s1 g
  refine ⟨Z2, e1, s2.re, (h1.step s2).bind fun y e2 Z3 H3 s3 h3 v g3 => ?_⟩
  obtain ⟨Z4, s4, hd2⟩ := Hold.of s2.re s3 g3
  refine ⟨Z4, e2, s4.re, (h3.step s4).bind fun z e3 Z5 H5 s5 h5 w' g5 => ?_⟩
  obtain ⟨Z6, s6, hd3⟩ := Hold.of s4.re s5 g5
  obtain ⟨zs, e, hp⟩ := h5.lift
  obtain ⟨xs, e0, e⟩ := bindSome e
  obtain ⟨ys, e00, e⟩ := bindSome e
  obtain ⟨ws, e000, rfl⟩ := optmap e
  obtain ⟨d, e5, e6⟩ := bindSome e0
  obtain ⟨d2, e7, e8⟩ := bindSome e00
  obtain ⟨d3, e9, e10⟩ := bindSome e000
  obtain ⟨sr, rfl, rfl, si⟩ := src_of s6.re (hd.mono (s4.mv.ez.trans s6.mv.ez)) e5 e6
  obtain ⟨sr2, rfl, rfl, si2⟩ := src_of s6.re (hd2.mono s6.mv.ez) e7 e8
  obtain ⟨sr3, rfl, rfl, si3⟩ := src_of s6.re hd3 e9 e10
  refine ⟨sr.a, sr.l, sr.us, sr2.a, sr2.l, sr2.us, sr3.a, sr3.l, sr3.us, rfl, (si.h s6.re).1, (si2.h s6.re).1, (si3.h s6.re).1, hp Z6 H5 s6 _ [sr, sr2, sr3] (wk_zip3 sr sr2 sr3) (fun s hs => ?_)⟩
  have e' : s = sr ∨ s = sr2 ∨ s = sr3 := by simpa using hs
  rcases e' with q | q | q
  · rw [q]; exact si.more fun i hi => by simp [It.lk, hi]
  · rw [q]; exact si2.more fun i hi => by simp [It.lk, hi]
  · rw [q]; exact si3.more fun i hi => by simp [It.lk, hi]⟩
end
end PL

/-! part PLCmp -/
set_option Elab.async false
set_option linter.all false
set_option autoImplicit false
set_option maxRecDepth 100000
set_option maxHeartbeats 4000000
/-! targets; blocks -/
namespace PL
open PySem PySem.Spec PyProof.Rows L2

/-! ### slots, wiped, locked, put back -/
theorem wipeE_gt {env : En} (j : Nat) : ∀ is : List Nat, (wipeE env is).gt j = if j ∈ is then .non else env.gt j
  | [] => by simp [wipeE]
  | i :: is => by
    show En.gt ((wipeE env is).set i .non) j = _
    rw [gt_set, wipeE_gt j is]
    by_cases h : i = j
    · subst h
      by_cases h2 : i < (wipeE env is).length
      · simp [h2]
      · have : (wipeE env is).gt i = .non := gt_ge (by omega)
        rw [wipeE_gt i is] at this
        simp only [true_and, h2, if_false, List.mem_cons, true_or, if_true]
        exact this
    · have : (j ∈ i :: is) = (j ∈ is) := by simp [Ne.symm h]
      simp [h, Ne.symm h]
theorem wipeE_len {env : En} : ∀ is : List Nat, (wipeE env is).length = env.length
  | [] => rfl
  | i :: is => by
    show ((wipeE env is).set i .non).length = _
    rw [List.length_set, wipeE_len is]
def lockS : Slot → Slot
  | .own xs => .lk xs
  | s => s
theorem lockE_len {env : En} : ∀ is : List Nat, (lockE env is).length = env.length
  | [] => rfl
  | i :: is => by
    unfold lockE
    split
    · rw [List.length_set, lockE_len is]
    · exact lockE_len is
theorem lockE_gt {env : En} (j : Nat) : ∀ is : List Nat, (lockE env is).gt j = if j ∈ is then lockS (env.gt j) else env.gt j
  | [] => by simp [lockE]
  | i :: is => by
    unfold lockE
    split
    · rename_i xs e
      rw [gt_set, lockE_len, lockE_gt j is]
      by_cases h : i = j
      · subst h
        have : i < env.length := gt_some (by rw [e]; simp)
        simp [this, e, lockS]
      · simp [h, Ne.symm h]
    · rename_i e
      rw [lockE_gt j is]
      by_cases h : i = j
      · subst h
        by_cases h2 : i ∈ is
        · simp [h2]
        · simp only [h2, if_false, List.mem_cons, true_or, if_true]
          cases q : env.gt i with
          | own xs => exact absurd q (e xs)
          | _ => rfl
      · simp [Ne.symm h]
theorem backE_len {old env : En} : ∀ is : List Nat, (backE old env is).length = env.length
  | [] => rfl
  | i :: is => by
    show ((backE old env is).set i (old.gt i)).length = _
    rw [List.length_set, backE_len is]
theorem backE_gt {old env : En} (hl : env.length = old.length) (j : Nat) : ∀ is : List Nat, (backE old env is).gt j = if j ∈ is then old.gt j else env.gt j
  | [] => by simp [backE]
  | i :: is => by
    show En.gt ((backE old env is).set i (old.gt i)) j = _
    rw [gt_set, backE_len, backE_gt hl j is]
    by_cases h : i = j
    · subst h
      by_cases h2 : i < env.length
      · simp [h2]
      · have e1 : old.gt i = .non := gt_ge (by omega)
        have e2 : env.gt i = .non := gt_ge (by omega)
        simp [h2, e1, e2]
    · simp [h, Ne.symm h]
theorem sg_wipe {σ : St} (j : Nat) : ∀ is : List Nat, sg (wipe σ is) j = if j ∈ is then none else sg σ j
  | [] => by simp [wipe]
  | i :: is => by
    show sg ((wipe σ is).set i none) j = _
    rw [sg_set, wipe_length, sg_wipe j is]
    by_cases h : i = j
    · subst h
      by_cases h2 : i < σ.length
      · simp [h2]
      · have : sg σ i = none := by
          unfold sg
          rw [List.getD_eq_getElem?_getD, List.getElem?_eq_none (by omega)]
          rfl
        simp [h2, this]
    · simp [h, Ne.symm h]
theorem isL_lock (s : Slot) : isL (lockS s) = isL s := by cases s <;> rfl
section
variable {K : PySem.W.Frag} {T : Tb} {σ σ2 : St} {Z H Z1 H1 Z2 H2 : Hp} {env env1 env2 e0 e1 : En}
theorem slot_lock {s : Slot} {o : Option V} (h : SlotOk K Z H s o) : SlotOk K Z H (lockS s) o := by
  cases s <;> exact h
/-- fewer list slots, the values as they were -/
theorem RE.sub (r : RE K T Z H env σ) (hl : env2.length = σ2.length) (hs : ∀ j, env2.gt j = .non ∨ (sg σ2 j = sg σ j ∧ (env2.gt j = env.gt j ∨ env2.gt j = lockS (env.gt j)))) : RE K T Z H env2 σ2 := by
  refine ⟨hl, fun j => ?_, fun i j a hi hj ei ej => ?_, r.ex, r.tb, r.pt⟩
  · rcases hs j with h | ⟨e, h | h⟩
    · rw [h]; trivial
    · rw [h, e]; exact r.sl j
    · rw [h, e]; exact slot_lock (r.sl j)
  · have f : ∀ i, isL (env2.gt i) = true → isL (env.gt i) = true ∧ sg σ2 i = sg σ i := fun i hi => by
      rcases hs i with h | ⟨e, h | h⟩
      · rw [h] at hi; cases hi
      · rw [h] at hi; exact ⟨hi, e⟩
      · rw [h, isL_lock] at hi; exact ⟨hi, e⟩
    obtain ⟨h1, h2⟩ := f i hi
    obtain ⟨h3, h4⟩ := f j hj
    exact r.ap i j a h1 h3 (h2 ▸ ei) (h4 ▸ ej)
theorem re_block (r : RE K T Z H env σ) {own lks : List Nat} (w : walkable own env lks = true) : RE K T Z H (lockE (wipeE env own) lks) (wipe σ own) := by
  refine r.sub (by rw [lockE_len, wipeE_len, wipe_length]; exact r.len) fun j => ?_
  rw [lockE_gt, wipeE_gt, sg_wipe]
  by_cases h : j ∈ own
  · left
    simp [h, lockS]
  · right
    by_cases h2 : j ∈ lks
    · simp [h, h2]
    · simp [h, h2]
theorem walk_mem {own : List Nat} {env : En} {lks : List Nat} (w : walkable own env lks = true) {i : Nat} (h : i ∈ lks) : i ∉ own ∧ isIo (env.gt i) = false := by
  unfold walkable at w
  rw [List.all_eq_true] at w
  have := w i h
  simp only [Bool.and_eq_true, Bool.not_eq_true'] at this
  refine ⟨fun z => ?_, ?_⟩
  · rw [List.contains_iff_mem.mpr z] at this
    cases this.1
  · cases q : env.gt i with
    | io xs => rw [q] at this; cases this.2
    | _ => rfl
theorem re_wipe (r : RE K T Z H env σ) (own : List Nat) : RE K T Z H (wipeE env own) (wipe σ own) := by
  refine r.sub (by rw [wipeE_len, wipe_length]; exact r.len) fun j => ?_
  rw [wipeE_gt, sg_wipe]
  by_cases h : j ∈ own
  · left; simp [h]
  · right; simp [h]
/-- an object apart is changed -/
theorem Stp.hid {D : Addr} {old new : List V} (s : Stp K T σ Z H env Z1 H1 e1) (hD : H D = none) (z : Z1 D = none) (nl : ¬ LsAt e1 σ D) (hd : H1 D = some (.lst old)) : Stp K T σ Z H env Z1 (upd H1 D (.lst new)) e1 := by
  have exz : Ex Z1 (upd H1 D (.lst new)) := s.re.ex.set z
  have nt : ∀ b o, H1 b = some o → (∀ xs, o ≠ .lst xs) → upd H1 D (.lst new) b = some o := fun b o q n => by
    have ne : b ≠ D := fun c => by rw [c, hd] at q; cases q; exact n _ rfl
    rw [upd_ne ne]
    exact q
  refine ⟨⟨s.re.len, fun i => Slot.mono _ (Ex.refl _) (fun a us e l q => ?_) (s.re.sl i), s.re.ap, exz, fun p hp => ?_, s.re.pt⟩, ⟨s.mv.ez, fun b o q n1 n2 n3 => ?_, fun b q => ?_, s.mv.gr⟩, s.ow, s.io, s.lk⟩
  · have ne : a ≠ D := fun c => nl ⟨i, l, c ▸ e⟩
    rw [upd_ne ne]
    exact ⟨q, (s.re.ndom ⟨i, l, e⟩).elim fun _ q => q.2⟩
  · obtain ⟨ps, t1, t2, t3⟩ := s.re.tb p hp
    refine ⟨ps, nt _ _ t1 (fun _ z => by cases z), t2, fun pos cv hc => ?_⟩
    obtain ⟨c, c1, c2⟩ := t3 pos cv hc
    exact ⟨c, c1, nt _ _ c2 fun xs z => by unfold LamX.CodeO at z; cases z⟩
  · have ne : b ≠ D := fun c => by rw [c, hD] at q; cases q
    rw [upd_ne ne]
    exact s.mv.kp b o q n1 n2 n3
  · by_cases c : b = D
    · rw [c, upd_same]; simp
    · rw [upd_ne c]; exact s.mv.dm b q
theorem free_slot {i : Nat} (h : free i env = true) : i < env.length ∧ isIo (env.gt i) = false ∧ isLk (env.gt i) = false := by
  unfold free at h
  cases q : env.gt i with
  | io xs => rw [q] at h; cases h
  | lk xs => rw [q] at h; cases h
  | _ => rw [q] at h; exact ⟨of_decide_eq_true h, rfl, rfl⟩
theorem re_set (r : RE K T Z H env σ) {i : Nat} {d : PyData} {v : V} (hi : i < env.length) (hd : Dp K Z v d) : RE K T Z H (env.set i (.val d)) (σ.set i (some v)) := by
  have hi2 : i < σ.length := by rw [← r.len]; exact hi
  refine ⟨by rw [List.length_set, List.length_set]; exact r.len, fun j => ?_, fun j l a hj hl ej el => ?_, r.ex, r.tb, r.pt⟩
  · by_cases c : j = i
    · subst c
      rw [gt_set_same hi, sg_set_same hi2]
      exact ⟨v, rfl, hd⟩
    · rw [gt_set_ne (Ne.symm c), sg_set_ne (Ne.symm c)]
      exact r.sl j
  · have f : ∀ j, isL (En.gt (env.set i (.val d)) j) = true → j ≠ i := fun j hj e => by
      subst e
      rw [gt_set_same hi] at hj
      cases hj
    have cj := f j hj
    have cl := f l hl
    rw [gt_set_ne (Ne.symm cj)] at hj
    rw [gt_set_ne (Ne.symm cl)] at hl
    rw [sg_set_ne (Ne.symm cj)] at ej
    rw [sg_set_ne (Ne.symm cl)] at el
    exact r.ap j l a hj hl ej el
end

/-! ### targets -/
def gP (K : PySem.W.Frag) : Pat → L2.TG
  | .nm i => gName i
  | .two p q => gTup K 2 (gCons (gP K p) (gCons (gP K q) gNil))
  | .three p q r => gTup K 3 (gCons (gP K p) (gCons (gP K q) (gCons (gP K r) gNil)))
def Pat.sl : Pat → List Nat
  | .nm i => [i]
  | .two p q => p.sl ++ q.sl
  | .three p q r => p.sl ++ (q.sl ++ r.sl)
def isLoc (sc : Scope) (x : Str) : Bool := match sc.names.lookup x with
  | some .local => true
  | some .cell => true
  | _ => false
def okName (x : Str) : Bool := !(x == ("__debug__" : Str)) && !(x == ("__classdict__" : Str))
def chkP (N : List Str) (st : Scope) : Pat → Expr → Bool
  | .nm i, .Name x _ => decide (N[i]? = some x) && isLoc st x
  | .two p q, .Tuple [a, b] _ _ => chkP N st p a && chkP N st q b
  | .three p q r, .Tuple [a, b, c] _ _ => chkP N st p a && (chkP N st q b && chkP N st r c)
  | _, _ => false
def plainTg : Expr → Bool
  | .Name _ _ => true
  | .Tuple _ _ _ => true
  | _ => false
theorem each_cons {e : Expr} {es : List Expr} {env : Env} (h : plainTg e = true) : assignEach (e :: es) env = (false, assign e env) :: assignEach es env := by
  cases e <;> first | rfl | cases h
theorem chkP_plain {N : List Str} {st : Scope} {p : Pat} {e : Expr} (h : chkP N st p e = true) : plainTg e = true := by
  cases p <;> cases e <;> first | rfl | (simp [chkP] at h)
/-- where names may be stored -/
def Sto (N : List Str) (st : Scope) (X : Cx) : Prop := X.N = N ∧ X.N.Nodup ∧ X.calm = true ∧ ∀ x, isLoc st x = true → Loc X.env.scope x ∧ (X.fn x = true ∨ X.env.scope.names.lookup x = some .local)
theorem pg_pat {N : List Str} {st : Scope} {X : Cx} (s : Sto N st X) : ∀ {p : Pat} {e : Expr}, chkP N st p e = true → PG X e (gP X.K p)
  | .nm i, e, h => by
    cases e with
    | Name x pos =>
      simp only [chkP, Bool.and_eq_true, decide_eq_true_eq] at h
      obtain ⟨h1, h2⟩ := s.2.2.2 x h.2
      exact pg_name s.2.1 (by rw [s.1]; exact h.1) h1 h2
    | _ => cases h
  | .two p q, e, h => by
    cases e with
    | Tuple es k pos =>
      match es, h with
      | [a, b], h =>
        simp only [chkP, Bool.and_eq_true] at h
        have e1 := chkP_plain h.1
        have e2 := chkP_plain h.2
        refine pg_tup s.2.2.1 (pgs_cons (pg_pat s h.1) (pgs_cons (pg_pat s h.2) pgs_nil ?_) ?_) ?_ ?_
        · rw [each_cons e2]; rfl
        · rw [each_cons e1]; rfl
        · rw [each_cons e1, each_cons e2]; rfl
        · rw [each_cons e1, each_cons e2]; rfl
    | _ => cases h
  | .three p q r, e, h => by
    cases e with
    | Tuple es k pos =>
      match es, h with
      | [a, b, c], h =>
        simp only [chkP, Bool.and_eq_true] at h
        have e1 := chkP_plain h.1
        have e2 := chkP_plain h.2.1
        have e3 := chkP_plain h.2.2
        refine pg_tup s.2.2.1 (pgs_cons (pg_pat s h.1) (pgs_cons (pg_pat s h.2.1) (pgs_cons (pg_pat s h.2.2) pgs_nil ?_) ?_) ?_) ?_ ?_
        · rw [each_cons e3]; rfl
        · rw [each_cons e2]; rfl
        · rw [each_cons e1]; rfl
        · rw [each_cons e1, each_cons e2, each_cons e3]; rfl
        · rw [each_cons e1, each_cons e2, each_cons e3]; rfl
    | _ => cases h
section
variable {K : PySem.W.Frag} {T : Tb} {σ σ2 : St} {Z H Z1 H1 Z2 H2 : Hp} {env env1 env2 e0 e1 : En}
/-- what a store changes -/
structure Bnd (sl : List Nat) (env : En) (σ : St) (env2 : En) (σ2 : St) : Prop where
  ln : env2.length = env.length
  lσ : σ2.length = σ.length
  off : ∀ j, j ∉ sl → env2.gt j = env.gt j ∧ sg σ2 j = sg σ j
  on : ∀ j ∈ sl, isL (env2.gt j) = false ∧ isIo (env.gt j) = false ∧ isLk (env.gt j) = false
theorem Bnd.trans {a b : List Nat} (x : Bnd a env σ env1 σ2) {σ3 : St} (y : Bnd b env1 σ2 env2 σ3) : Bnd (a ++ b) env σ env2 σ3 where
  ln := y.ln.trans x.ln
  lσ := y.lσ.trans x.lσ
  off := fun j h => by
    rw [List.mem_append] at h
    obtain ⟨h1, h2⟩ := x.off j (fun z => h (.inl z))
    obtain ⟨h3, h4⟩ := y.off j (fun z => h (.inr z))
    exact ⟨h3.trans h1, h4.trans h2⟩
  on := fun j h => by
    by_cases hb : j ∈ b
    · obtain ⟨h1, h2, h3⟩ := y.on j hb
      by_cases ha : j ∈ a
      · exact ⟨h1, (x.on j ha).2⟩
      · rw [(x.off j ha).1] at h2 h3
        exact ⟨h1, h2, h3⟩
    · have ha : j ∈ a := (List.mem_append.mp h).resolve_right hb
      obtain ⟨h1, h2⟩ := x.on j ha
      rw [(y.off j hb).1]
      exact ⟨h1, h2⟩
theorem bind_ok : ∀ (p : Pat) {d : PyData} {v : V} {env env2 : En} {σ : St} {Q : St → Hp → Prop}, RE K T Z H env σ → Dp K Z v d → bindP p d env = some env2 → (∀ σ2, RE K T Z H env2 σ2 → Bnd p.sl env σ env2 σ2 → Q σ2 H) → gP K p v σ H Q
  | .nm i, d, v, env, env2, σ, Q, r, hd, e, k => by
    have e : stV i d env = some env2 := by
      unfold bindP at e
      exact e
    unfold stV at e
    obtain ⟨h1, rfl⟩ := itesome e
    obtain ⟨h2, h3, h4⟩ := free_slot h1
    refine k _ (re_set r h2 hd) ⟨by rw [List.length_set], by rw [List.length_set], fun j hj => ?_, fun j hj => ?_⟩
    · have : i ≠ j := fun z => hj (by rw [z]; simp [Pat.sl])
      exact ⟨gt_set_ne this, sg_set_ne this⟩
    · have : j = i := by simpa [Pat.sl] using hj
      subst this
      rw [gt_set_same h2]
      exact ⟨rfl, h3, h4⟩
  | .two p q, d, v, env, env2, σ, Q, r, hd, e, k => by
    unfold bindP at e
    split at e
    · rename_i e'; cases e'
    · rename_i p' q' a b e'
      cases e'
      obtain ⟨e1, h1, h2⟩ := bindSome e
      cases hd with
      | tup hs hds =>
        cases hds with
        | cons ha hds =>
          cases hds with
          | cons hb hds =>
            cases hds
            refine ⟨_, _, rfl, ex_t r.ex hs, rfl, _, _, rfl, bind_ok p r ha h1 fun σ1 r1 b1 => ?_⟩
            exact ⟨_, _, rfl, bind_ok q r1 hb h2 fun σ2 r2 b2 => ⟨rfl, k σ2 r2 (b1.trans b2)⟩⟩
    · rename_i e' ; cases e'
    · cases e
  | .three p q s, d, v, env, env2, σ, Q, r, hd, e, k => by
    unfold bindP at e
    split at e
    · rename_i e'; cases e'
    · rename_i e'; cases e'
    · rename_i p' q' s' a b c e'
      cases e'
      obtain ⟨e1, h1, h2⟩ := bindSome e
      obtain ⟨e3, h3, h4⟩ := bindSome h2
      cases hd with
      | tup hs hds =>
        cases hds with
        | cons ha hds =>
          cases hds with
          | cons hb hds =>
            cases hds with
            | cons hc hds =>
              cases hds
              refine ⟨_, _, rfl, ex_t r.ex hs, rfl, _, _, rfl, bind_ok p r ha h1 fun σ1 r1 b1 => ?_⟩
              exact ⟨_, _, rfl, bind_ok q r1 hb h3 fun σ2 r2 b2 => ⟨_, _, rfl, bind_ok s r2 hc h4 fun σ3 r3 b3 => ⟨rfl, k σ3 r3 (b1.trans (b2.trans b3))⟩⟩⟩
    · cases e
/-- a turn's item -/
theorem bind_pair (p : Pat) (t : p.isT = true) {a : Addr} {us : List V} {es : List PyData} {env env2 : En} {σ : St} {Q : St → Hp → Prop} (r : RE K T Z H env σ) (hs : H a = some (.tup us)) (hds : DpAll K Z us es) (e : bindP p (.tuple es) env = some env2)
    (k : ∀ σ2, RE K T Z H env2 σ2 → Bnd p.sl env σ env2 σ2 → Q σ2 H) : gP K p (.ref a) σ H Q := by
  cases p with
  | nm i => cases t
  | two p q =>
    unfold bindP at e
    split at e
    · rename_i e'; cases e'
    · rename_i p' q' a b e' ed
      cases e'
      cases ed
      obtain ⟨e1, h1, h2⟩ := bindSome e
      cases hds with
      | cons ha hds =>
        cases hds with
        | cons hb hds =>
          cases hds
          refine ⟨_, _, rfl, .inl (.inl hs), rfl, _, _, rfl, bind_ok p r ha h1 fun σ1 r1 b1 => ?_⟩
          exact ⟨_, _, rfl, bind_ok q r1 hb h2 fun σ2 r2 b2 => ⟨rfl, k σ2 r2 (b1.trans b2)⟩⟩
    · rename_i e' ed; cases e'
    · cases e
  | three p q s =>
    unfold bindP at e
    split at e
    · rename_i e'; cases e'
    · rename_i e' ed; cases e'
    · rename_i p' q' s' a b c e' ed
      cases e'
      cases ed
      obtain ⟨e1, h1, h2⟩ := bindSome e
      obtain ⟨e3, h3, h4⟩ := bindSome h2
      cases hds with
      | cons ha hds =>
        cases hds with
        | cons hb hds =>
          cases hds with
          | cons hc hds =>
            cases hds
            refine ⟨_, _, rfl, .inl (.inl hs), rfl, _, _, rfl, bind_ok p r ha h1 fun σ1 r1 b1 => ?_⟩
            exact ⟨_, _, rfl, bind_ok q r1 hb h3 fun σ2 r2 b2 => ⟨_, _, rfl, bind_ok s r2 hc h4 fun σ3 r3 b3 => ⟨rfl, k σ3 r3 (b1.trans (b2.trans b3))⟩⟩⟩
    · cases e
end
end PL

/-! part PLCmp2 -/
set_option Elab.async false
set_option linter.all false
set_option autoImplicit false
set_option maxRecDepth 100000
set_option maxHeartbeats 4000000
/-! list comprehensions -/
namespace PL
open PySem PySem.Spec PyProof.Rows L2

def noE : XK := fun _ _ _ => False
section
variable {L : Lk} {K : PySem.W.Frag} {T : Tb} {σ σ2 : St} {Z H Z0 H0 Z1 H1 Z2 H2 Z3 H3 Z4 H4 : Hp} {env env1 env2 e0 e1 e2 e3 : En}
/-- a turn seen from outside: the stored names wiped -/
theorem Stp.rebase {own sl : List Nat} (b : Bnd sl env σ e1 σ2) (hs : ∀ j ∈ sl, j ∈ own) (hw : ∀ j ∈ own, env.gt j = .non) (hσ : wipe σ2 own = σ) (s : Stp K T σ2 Z H e1 Z1 H1 e2) : Stp K T σ Z H env Z1 H1 (wipeE e2 own) := by
  have f : ∀ j, isL (e1.gt j) = true → j ∉ sl ∧ e1.gt j = env.gt j ∧ sg σ2 j = sg σ j := fun j hj => by
    by_cases c : j ∈ sl
    · rw [(b.on j c).1] at hj; cases hj
    · exact ⟨c, b.off j c⟩
  have ow : ∀ c, OwnAt e1 σ2 c → OwnAt env σ c := fun c ⟨j, hj, e⟩ => by
    obtain ⟨h1, h2, h3⟩ := f j (by unfold isL; rw [hj]; rfl)
    exact ⟨j, h2 ▸ hj, h3 ▸ e⟩
  have io : ∀ c, IoAt e1 σ2 c → IoAt env σ c := fun c ⟨j, hj, e⟩ => by
    obtain ⟨h1, h2, h3⟩ := f j (by unfold isL; rw [hj]; simp)
    exact ⟨j, h2 ▸ hj, h3 ▸ e⟩
  refine ⟨hσ ▸ re_wipe s.re own, s.mv.mono ow io, fun j hj => ?_, fun j => ?_, fun j => ?_⟩
  · rw [wipeE_gt] at hj
    by_cases c : j ∈ own
    · rw [if_pos c] at hj; cases hj
    · rw [if_neg c] at hj
      have h := s.ow j hj
      obtain ⟨h1, h2, _⟩ := f j (by unfold isL; rw [h]; rfl)
      rw [← h2]; exact h
  · rw [wipeE_gt]
    by_cases c : j ∈ own
    · rw [if_pos c, hw j c]
    · rw [if_neg c, s.io j, (b.off j (fun z => c (hs j z))).1]
  · rw [wipeE_gt]
    by_cases c : j ∈ own
    · rw [if_pos c, hw j c]
    · rw [if_neg c, s.lk j, (b.off j (fun z => c (hs j z))).1]
/-- behind the block: its names and the walked lists as they were -/
theorem Stp.back {own lks : List Nat} (r : RE K T Z1 H1 e1 σ) (w : walkable own e1 lks = true) (s : Stp K T (wipe σ own) Z1 H1 (lockE (wipeE e1 own) lks) Z2 H2 e2) : Stp K T σ Z1 H1 e1 Z2 H2 (backE e1 e2 (own ++ lks)) := by
  have ln : e2.length = e1.length := by
    have h1 := s.re.len
    rw [wipe_length] at h1
    rw [h1, r.len]
  have hs : ∀ j, (lockE (wipeE e1 own) lks).gt j = if j ∈ own then .non else if j ∈ lks then lockS (e1.gt j) else e1.gt j := fun j => by
    rw [lockE_gt, wipeE_gt]
    by_cases h : j ∈ own
    · simp [h, lockS]
    · simp [h]
  -- a list slot of the block's is one of ours
  have f : ∀ j, isL ((lockE (wipeE e1 own) lks).gt j) = true → j ∉ own ∧ isL (e1.gt j) = true ∧ sg (wipe σ own) j = sg σ j := fun j hj => by
    rw [hs] at hj
    by_cases h : j ∈ own
    · rw [if_pos h] at hj; cases hj
    · rw [if_neg h] at hj
      refine ⟨h, ?_, by rw [sg_wipe, if_neg h]⟩
      by_cases h2 : j ∈ lks
      · rw [if_pos h2, isL_lock] at hj; exact hj
      · rw [if_neg h2] at hj; exact hj
  have f2 : ∀ j, isL (e2.gt j) = true → j ∉ own ∧ isL (e1.gt j) = true ∧ sg (wipe σ own) j = sg σ j := fun j hj => by
    refine f j ?_
    unfold isL at hj ⊢
    rw [← s.io j, ← s.lk j]
    simp only [Bool.or_eq_true] at hj ⊢
    rcases hj with (h | h) | h
    · exact .inl (.inl (s.ow j h))
    · exact .inl (.inr h)
    · exact .inr h
  have owS : ∀ j, isOwn ((lockE (wipeE e1 own) lks).gt j) = true → j ∉ own ∧ j ∉ lks ∧ isOwn (e1.gt j) = true := fun j hj => by
    rw [hs] at hj
    by_cases h : j ∈ own
    · rw [if_pos h] at hj; cases hj
    · rw [if_neg h] at hj
      by_cases h2 : j ∈ lks
      · rw [if_pos h2] at hj
        exfalso
        cases q : e1.gt j <;> rw [q] at hj <;> cases hj
      · rw [if_neg h2] at hj
        exact ⟨h, h2, hj⟩
  have ioS : ∀ j, isIo ((lockE (wipeE e1 own) lks).gt j) = true → j ∉ own ∧ isIo (e1.gt j) = true := fun j hj => by
    rw [hs] at hj
    by_cases h : j ∈ own
    · rw [if_pos h] at hj; cases hj
    · rw [if_neg h] at hj
      refine ⟨h, ?_⟩
      by_cases h2 : j ∈ lks
      · rw [if_pos h2] at hj
        cases q : e1.gt j <;> rw [q] at hj <;> first | rfl | cases hj
      · rw [if_neg h2] at hj; exact hj
  have mv : Mv (OwnAt e1 σ) (IoAt e1 σ) Z1 H1 Z2 H2 := s.mv.mono
    (fun c ⟨j, hj, e⟩ => by
      obtain ⟨h1, h2, h3⟩ := owS j hj
      rw [sg_wipe, if_neg h1] at e
      exact ⟨j, h3, e⟩)
    (fun c ⟨j, hj, e⟩ => by
      obtain ⟨h1, h2⟩ := ioS j hj
      rw [sg_wipe, if_neg h1] at e
      exact ⟨j, h2, e⟩)
  -- our own list of a wiped or a locked slot stays as it is
  have keep : ∀ j a us, j ∈ own ++ lks → isL (e1.gt j) = true → sg σ j = some (.ref a) → H1 a = some (.lst us) → H2 a = some (.lst us) ∧ Z2 a = none := fun j a us hj hl e ha => by
    have no : ¬ OwnAt (lockE (wipeE e1 own) lks) (wipe σ own) a := fun ⟨i, hi, ei⟩ => by
      obtain ⟨h1, h2, h3⟩ := owS i hi
      rw [sg_wipe, if_neg h1] at ei
      have := r.ap i j a (by unfold isL; rw [h3]; rfl) hl ei e
      subst this
      rcases List.mem_append.mp hj with z | z
      · exact h1 z
      · exact h2 z
    have ni : ¬ IoAt (lockE (wipeE e1 own) lks) (wipe σ own) a := fun ⟨i, hi, ei⟩ => by
      obtain ⟨h1, h2⟩ := ioS i hi
      rw [sg_wipe, if_neg h1] at ei
      have := r.ap i j a (by unfold isL; rw [h2]; simp) hl ei e
      subst this
      rcases List.mem_append.mp hj with z | z
      · exact h1 z
      · rw [(walk_mem w z).2] at h2; cases h2
    refine ⟨s.mv.kp a _ ha no ni ntb_lst, ?_⟩
    obtain ⟨_, _, z⟩ := r.ndom ⟨j, hl, e⟩
    cases q : Z2 a with
    | none => rfl
    | some o =>
      rcases s.mv.gr a (by rw [q]; simp) with h' | h' | h'
      · exact absurd z h'
      · rw [ha] at h'; cases h'
      · exact absurd h' no
  have g : ∀ j, (backE e1 e2 (own ++ lks)).gt j = if j ∈ own ++ lks then e1.gt j else e2.gt j := fun j => backE_gt ln j _
  have lst : ∀ j, isL ((backE e1 e2 (own ++ lks)).gt j) = true → isL (e1.gt j) = true := fun j hj => by
    rw [g] at hj
    by_cases h : j ∈ own ++ lks
    · rw [if_pos h] at hj; exact hj
    · rw [if_neg h] at hj; exact (f2 j hj).2.1
  refine ⟨⟨by rw [backE_len, ln]; exact r.len, fun j => ?_, fun i j a hi hj ei ej => r.ap i j a (lst i hi) (lst j hj) ei ej, s.re.ex, s.re.tb, s.re.pt⟩, mv, fun j hj => ?_, fun j => ?_, fun j => ?_⟩
  · rw [g]
    by_cases h : j ∈ own ++ lks
    · rw [if_pos h]
      exact Slot.mono _ mv.ez (fun a us e l q => keep j a us h l e q) (r.sl j)
    · rw [if_neg h]
      have h2 : j ∉ own := fun z => h (List.mem_append_left _ z)
      have := s.re.sl j
      rw [sg_wipe, if_neg h2] at this
      exact this
  · rw [g] at hj
    by_cases h : j ∈ own ++ lks
    · rw [if_pos h] at hj; exact hj
    · rw [if_neg h] at hj
      exact (owS j (s.ow j hj)).2.2
  · rw [g]
    by_cases h : j ∈ own ++ lks
    · rw [if_pos h]
    · rw [if_neg h, s.io j, hs, if_neg (fun z => h (List.mem_append_left _ z)), if_neg (fun z => h (List.mem_append_right _ z))]
  · rw [g]
    by_cases h : j ∈ own ++ lks
    · rw [if_pos h]
    · rw [if_neg h, s.lk j, hs, if_neg (fun z => h (List.mem_append_left _ z)), if_neg (fun z => h (List.mem_append_right _ z))]
theorem wipe_wipe {own : List Nat} {sl : List Nat} (b : Bnd sl e1 (wipe σ own) e2 σ2) (hs : ∀ j ∈ sl, j ∈ own) : wipe σ2 own = wipe σ own := by
  have sgl : ∀ {σ τ : St}, σ.length = τ.length → (∀ j, sg σ j = sg τ j) → σ = τ := fun {σ τ} hl h => by
    refine List.ext_getElem hl fun j h1 h2 => ?_
    have := h j
    unfold sg at this
    rw [List.getD_eq_getElem?_getD, List.getD_eq_getElem?_getD, List.getElem?_eq_getElem h1, List.getElem?_eq_getElem h2] at this
    exact this
  refine sgl (by rw [wipe_length, wipe_length]; have := b.lσ; rw [wipe_length] at this; exact this) fun j => ?_
  rw [sg_wipe, sg_wipe]
  by_cases c : j ∈ own
  · rw [if_pos c, if_pos c]
  · rw [if_neg c, if_neg c, (b.off j (fun z => c (hs j z))).2, sg_wipe, if_neg c]
end
end PL

/-! part PLCmp3 -/
set_option Elab.async false
set_option linter.all false
set_option autoImplicit false
set_option maxRecDepth 100000
set_option maxHeartbeats 4000000
namespace PL
open PySem PySem.Spec PyProof.Rows L2

def hide (D : Addr) (H : Hp) : Hp := fun b => if b = D then none else H b
section
variable {L : Lk} {K : PySem.W.Frag} {T : Tb} {σ σ2 : St} {Z H Z0 H0 Z1 H1 Z2 H2 Z3 H3 Z4 H4 : Hp} {env env1 env2 e0 e1 e2 e3 : En} {D : Addr}
theorem hide_ne {b : Addr} (h : b ≠ D) : hide D H b = H b := if_neg h
theorem hide_same : hide D H D = none := if_pos rfl
theorem hide_some {b : Addr} {o : HO} (h : hide D H b = some o) : b ≠ D ∧ H b = some o := by
  by_cases c : b = D
  · subst c; rw [hide_same] at h; cases h
  · rw [hide_ne c] at h; exact ⟨c, h⟩
theorem hide_upd {o : HO} : hide D (upd H D o) = hide D H := by
  funext b
  by_cases c : b = D
  · subst c; rw [hide_same, hide_same]
  · rw [hide_ne c, hide_ne c, upd_ne c]
theorem hide_free (h : H D = none) : hide D H = H := by
  funext b
  by_cases c : b = D
  · subst c; rw [hide_same, h]
  · rw [hide_ne c]
theorem Ex.unhide {Z H : Hp} (e : Ex Z (hide D H)) : Ex Z H := ⟨fun b o q n => (hide_some (e.kp b o q n)).2, fun b q => by
  have h := e.dm b q
  cases z : hide D H b with
  | none => exact absurd z h
  | some o => rw [(hide_some z).2]; simp⟩
theorem Ex.hide {Z H : Hp} (e : Ex Z H) (z : Z D = none) : Ex Z (PL.hide D H) := ⟨fun b o q n => by
  have ne : b ≠ D := fun c => by rw [c, z] at q; cases q
  rw [hide_ne ne]
  exact e.kp b o q n, fun b q => by
  have ne : b ≠ D := fun c => by rw [c, z] at q; exact q rfl
  rw [hide_ne ne]
  exact e.dm b q⟩
theorem RE.unhide (r : RE K T Z (hide D H) env σ) : RE K T Z H env σ :=
  r.mono (Ex.refl _) r.ex.unhide (LamX.Tabs.ext r.tb fun b o e => (hide_some e).2) (fun i a us l e q => ⟨(hide_some q).2, (r.ndom ⟨i, l, e⟩).elim fun _ z => z.2⟩) r.pt
theorem RE.offD (r : RE K T Z (hide D H) env σ) : Z D = none ∧ ¬ LsAt env σ D := by
  refine ⟨?_, fun h => ?_⟩
  · cases q : Z D with
    | none => rfl
    | some o => exact absurd hide_same (r.ex.dm D (by rw [q]; simp))
  · obtain ⟨us, q, _⟩ := r.ndom h
    exact absurd rfl (hide_some q).1
theorem tabs_hide {xs : List V} (h : LamX.Tabs T H) (hd : H D = some (.lst xs)) : LamX.Tabs T (hide D H) := fun p hp => by
  have nt : ∀ b o, H b = some o → (∀ xs, o ≠ .lst xs) → hide D H b = some o := fun b o q n => by
    have ne : b ≠ D := fun c => by rw [c, hd] at q; cases q; exact n _ rfl
    rw [hide_ne ne]
    exact q
  obtain ⟨ps, t1, t2, t3⟩ := h p hp
  refine ⟨ps, nt _ _ t1 (fun _ z => by cases z), t2, fun pos cv hc => ?_⟩
  obtain ⟨c, c1, c2⟩ := t3 pos cv hc
  exact ⟨c, c1, nt _ _ c2 fun xs z => by unfold LamX.CodeO at z; cases z⟩
/-- a step that does not know of D -/
theorem Stp.hide (s : Stp K T σ Z H env Z1 H1 e1) (z : Z D = none) (nl : ¬ LsAt env σ D) {xs : List V} (hd : H D = some (.lst xs)) : H1 D = some (.lst xs) ∧ Stp K T σ Z (PL.hide D H) env Z1 (PL.hide D H1) e1 := by
  have h1 : H1 D = some (.lst xs) := s.mv.kp D _ hd (fun q => nl q.ls) (fun q => nl q.ls) ntb_lst
  have z1 : Z1 D = none := by
    cases q : Z1 D with
    | none => rfl
    | some o =>
      rcases s.mv.gr D (by rw [q]; simp) with h' | h' | h'
      · exact absurd z h'
      · rw [hd] at h'; cases h'
      · exact absurd h'.ls nl
  have nl1 : ¬ LsAt e1 σ D := fun q => nl (s.lsAt q)
  refine ⟨h1, ⟨⟨s.re.len, fun i => Slot.mono _ (Ex.refl _) (fun a us e l q => ?_) (s.re.sl i), s.re.ap, s.re.ex.hide z1, tabs_hide s.re.tb h1, s.re.pt⟩, ⟨s.mv.ez, fun b o q n1 n2 n3 => ?_, fun b q => ?_, fun b q => ?_⟩, s.ow, s.io, s.lk⟩⟩
  · have ne : a ≠ D := fun c => nl1 ⟨i, l, c ▸ e⟩
    rw [hide_ne ne]
    exact ⟨q, (s.re.ndom ⟨i, l, e⟩).elim fun _ q => q.2⟩
  · obtain ⟨ne, q⟩ := hide_some q
    rw [hide_ne ne]
    exact s.mv.kp b o q n1 n2 n3
  · have ne : b ≠ D := fun c => by rw [c, hide_same] at q; exact q rfl
    rw [hide_ne ne] at q ⊢
    exact s.mv.dm b q
  · rcases s.mv.gr b q with h' | h' | h'
    · exact .inl h'
    · right; left
      by_cases c : b = D
      · rw [c, hide_same]
      · rw [hide_ne c]; exact h'
    · exact .inr (.inr h')
/-- a locked source -/
def SrcS (K : PySem.W.Frag) (σ : St) (Z H : Hp) (env : En) (lks : List Nat) (s : Src) : Prop :=
  DpAll K Z s.us s.xs ∧ (SqS K s.l Z s.a s.us ∨ (s.l = true ∧ H s.a = some (.lst s.us) ∧ ∃ i ∈ lks, isLk (env.gt i) = true ∧ sg σ i = some (.ref s.a)))
theorem SrcS.h (r : RE K T Z H env σ) {lks : List Nat} {s : Src} (h : SrcS K σ Z H env lks s) : SrcH K Z H s := by
  obtain ⟨da, h | ⟨e, h, _⟩⟩ := h
  · exact ⟨sq_ex r.ex h, da⟩
  · refine ⟨?_, da⟩
    rw [e]
    exact .inl (.inl h)
theorem SrcS.mono (r : RE K T Z H env σ) {lks : List Nat} {s : Src} (h : SrcS K σ Z H env lks s) (st : Stp K T σ Z H env Z1 H1 e1) : SrcS K σ Z1 H1 e1 lks s := by
  obtain ⟨da, h | ⟨e, h, i, hi, hl, hs⟩⟩ := h
  · exact ⟨dpa_mono st.mv.ez _ da, .inl (sq_ex st.mv.ez h)⟩
  · have lI : isL (env.gt i) = true := by unfold isL; rw [hl]; simp
    refine ⟨dpa_mono st.mv.ez _ da, .inr ⟨e, st.mv.kp _ _ h (fun ⟨j, hj, ej⟩ => ?_) (fun ⟨j, hj, ej⟩ => ?_) ntb_lst, i, hi, by rw [st.lk i]; exact hl, hs⟩⟩
    · have := r.ap j i s.a (by unfold isL; rw [hj]; rfl) lI ej hs
      subst this
      cases q : env.gt j <;> rw [q] at hj hl <;> first | (cases hj; done) | (cases hl; done)
    · have := r.ap j i s.a (by unfold isL; rw [hj]; simp) lI ej hs
      subst this
      cases q : env.gt j <;> rw [q] at hj hl <;> first | (cases hj; done) | (cases hl; done)
theorem SrcS.of {own lks : List Nat} {s : Src} (w : walkable own e1 lks = true) (h : SrcIn K σ Z H e1 lks s) : SrcS K (wipe σ own) Z H (lockE (wipeE e1 own) lks) lks s := by
  obtain ⟨da, h | ⟨e, h, i, hi, hl, hs⟩⟩ := h
  · exact ⟨da, .inl h⟩
  · obtain ⟨w1, w2⟩ := walk_mem w hi
    refine ⟨da, .inr ⟨e, h, i, hi, ?_, by rw [sg_wipe, if_neg w1]; exact hs⟩⟩
    rw [lockE_gt, if_pos hi, wipeE_gt, if_neg w1]
    cases q : e1.gt i <;> rw [q] at hl w2 <;> first | rfl | (cases hl; done) | (cases w2; done)
theorem SrcS.hide {lks : List Nat} {s : Src} (nl : ¬ LsAt env σ D) (h : SrcS K σ Z H env lks s) : SrcS K σ Z (PL.hide D H) env lks s := by
  obtain ⟨da, h | ⟨e, h, i, hi, hl, hs⟩⟩ := h
  · exact ⟨da, .inl h⟩
  · refine ⟨da, .inr ⟨e, ?_, i, hi, hl, hs⟩⟩
    have ne : s.a ≠ D := fun c => nl ⟨i, by unfold isL; rw [hl]; simp, c ▸ hs⟩
    rw [hide_ne ne]
    exact h
theorem SrcS.unhide {lks : List Nat} {s : Src} (h : SrcS K σ Z (PL.hide D H) env lks s) : SrcS K σ Z H env lks s := by
  obtain ⟨da, h | ⟨e, h, i, hi, hl, hs⟩⟩ := h
  · exact ⟨da, .inl h⟩
  · exact ⟨da, .inr ⟨e, (hide_some h).2, i, hi, hl, hs⟩⟩

/-- the state ahead of turn i: the list at D holds what was given so far -/
def CI (L : Lk) (K : PySem.W.Frag) (σw : St) (own lks : List Nat) (p : Pat) (cf : En → Out Bool) (ef : En → Out RV) (xs ds : List PyData) (en : En) (ss : List Src) (Zs Hs : Hp) (es : En) (D : Addr) (i : Nat) (Hc : Hp) : Prop :=
  ∃ Zc ec acc dd rest, Stp K L.T σw Zs Hs es Zc (hide D Hc) ec ∧ Hc D = some (.lst acc) ∧ DpAll K Zc acc dd ∧ compLoop own (bindP p) cf ef (xs.drop i) ec = .ok rest en ∧ dd ++ rest = ds ∧ (∀ j ∈ own, ec.gt j = .non) ∧ ∀ s ∈ ss, SrcS K σw Zc (hide D Hc) ec lks s
section
variable {own lks : List Nat} {p : Pat} {cf : En → Out Bool} {ef : En → Out RV} {xs ds : List PyData} {en : En} {ss : List Src} {Zs Hs : Hp} {es : En} {J : L2.It}
theorem post_ok {Ew : XK} {α : Type} {P : α → En → Hp → Hp → Prop} {o : Out α} {a : α} (e : o = .ok a e1) (h : ∀ Z1 H1, Stp K L.T σ Z H env Z1 H1 e1 → P a e1 Z1 H1) : Post L K Ew σ Z H env P o := by
  rw [e]
  exact h
theorem drop_at {i : Nat} {d : PyData} (h : xs[i]? = some d) : xs.drop i = d :: xs.drop (i + 1) := by
  obtain ⟨h1, h2⟩ := List.getElem?_eq_some_iff.mp h
  rw [← h2]
  exact List.drop_eq_getElem_cons h1
/-- a turn's item, stored -/
theorem yl_bind {b : Bool} {p : Pat} (hpt : b = true → p.isT = true) (r : RE K T Z H env σ) {x : V} {H' : Hp} {d : PyData} (y : Yl K b Z H x H' d) :
    Stp K T σ Z H env Z H' env ∧ ∀ {env2 : En} {Q : St → Hp → Prop}, bindP p d env = some env2 → (∀ σ2, RE K T Z H' env2 σ2 → Bnd p.sl env σ env2 σ2 → Q σ2 H') → gP K p x σ H' Q := by
  rcases y with ⟨rfl, h⟩ | ⟨a, us, es, hb, hn, rfl, rfl, rfl, h⟩
  · exact ⟨Stp.refl r, fun e k => bind_ok p r h e k⟩
  · have s := Stp.new (K := K) (T := T) (o := .tup us) r hn
    exact ⟨s, fun e k => bind_pair p (hpt hb) s.re upd_same h e k⟩
theorem comp_turn {b : Bool} {Nx : Hp → Prop} (hpt : b = true → p.isT = true) (hsub : ∀ j ∈ p.sl, j ∈ own) (hz : szOk ds.length = true) {i : Nat} {Hc : Hp} (c : CI L K (wipe σ own) own lks p cf ef xs ds en ss Zs Hs es D i Hc) (hi : i < xs.length)
    (hn : ∀ H5, CI L K (wipe σ own) own lks p cf ef xs ds en ss Zs Hs es D (i + 1) H5 → Nx H5) (wk : WkOk b K J xs ss) {x : V} {H'' : Hp} (y : J.yld i Hc x H'') :
    gP K p x (wipe σ own) H'' fun σ2 H2 => wipe σ2 own = wipe σ own ∧ tT L K noE cf σ2 H2 fun b H3 =>
      if b = true then tR L K noE ef σ2 H3 fun y H4 => ∃ acc, H4 D = some (.lst acc) ∧ acc.length < sizeLine ∧ Nx (upd H4 D (.lst (acc ++ [y]))) else Nx H3 := by
  obtain ⟨Zc, ec, acc, dd, rest, sc, hD, da, hl, hds, hw, hss⟩ := c
  have r1 := sc.re.unhide
  obtain ⟨zD, nl⟩ := sc.re.offD
  have hss' : ∀ s ∈ ss, SrcS K (wipe σ own) Zc Hc ec lks s := fun s hs => (hss s hs).unhide
  have ed : xs[i]? = some xs[i] := List.getElem?_eq_getElem hi
  generalize xs[i] = d at ed
  rw [drop_at ed] at hl
  have yl := wk.yld Zc Hc i x H'' d (fun s hs => (hss' s hs).h r1) y ed
  obtain ⟨sd, hbd⟩ := yl_bind hpt r1 yl
  let Zd := Zc
  unfold compLoop at hl
  cases eb : bindP p d ec with
  | none => rw [eb] at hl; cases hl
  | some e1 =>
    rw [eb] at hl
    dsimp only at hl
    refine hbd eb fun σ2 r2 bn => ⟨wipe_wipe bn hsub, ?_⟩
    have rb := fun {Z3 H3 e} (s : Stp K L.T σ2 Zd H'' e1 Z3 H3 e) => sd.trans (Stp.rebase bn hsub hw (wipe_wipe bn hsub) s)
    have fin : ∀ {Z3 H3 e} (s : Stp K L.T (wipe σ own) Zc Hc ec Z3 H3 e), H3 D = some (.lst acc) ∧ Stp K L.T (wipe σ own) Zs Hs es Z3 (PL.hide D H3) e ∧ DpAll K Z3 acc dd ∧ ∀ s ∈ ss, SrcS K (wipe σ own) Z3 (PL.hide D H3) e lks s := fun {Z3 H3 e} s => by
      obtain ⟨h1, h2⟩ := s.hide zD nl hD
      exact ⟨h1, sc.trans h2, dpa_mono s.mv.ez _ da, fun q hq => (hss q hq).mono sc.re h2⟩
    have hwo : ∀ (e : En), ∀ j ∈ own, (wipeE e own).gt j = .non := fun e j hj => by rw [wipeE_gt, if_pos hj]
    cases ec' : cf e1 with
    | ok b e2 =>
      rw [ec'] at hl
      refine ⟨Zd, e1, r2, post_ok ec' fun Z3 H3 s3 => ?_⟩
      cases b with
      | true =>
        dsimp only at hl
        rw [if_pos rfl]
        cases ee : ef e2 with
        | ok r e3 =>
          rw [ee] at hl
          dsimp only at hl
          cases el : compLoop own (bindP p) cf ef (xs.drop (i + 1)) (wipeE e3 own) with
          | ok ds' e4 =>
            rw [el] at hl
            cases hl
            refine ⟨Z3, e2, s3.re, post_ok ee fun Z4 H4 s4 u g => ?_⟩
            obtain ⟨Z5, s5, du⟩ := s4.toV s3.re g
            obtain ⟨h1, h2, h3, h4⟩ := fin (rb (s3.trans s5))
            have ln := dpa_len h3
            refine ⟨acc, h1, ?_, hn _ ⟨Z5, wipeE e3 own, acc ++ [u], dd ++ [r.d], ds', by rw [hide_upd]; exact h2, upd_same, dpa_app h3 (.cons du .nil), el, by rw [← hds]; simp, hwo e3, by rw [hide_upd]; exact h4⟩⟩
            have := szOk_of hz
            rw [← hds, List.length_append, List.length_cons] at this
            omega
          | exc c s e4 => rw [el] at hl; cases hl
          | bad => rw [el] at hl; cases hl
        | exc c s e3 => rw [ee] at hl; cases hl
        | bad => rw [ee] at hl; cases hl
      | false =>
        dsimp only at hl
        rw [if_neg (by decide)]
        obtain ⟨h1, h2, h3, h4⟩ := fin (rb s3)
        exact hn _ ⟨Z3, wipeE e2 own, acc, dd, rest, h2, h1, h3, hl, hds, hwo e2, h4⟩
    | exc c s e2 => rw [ec'] at hl; cases hl
    | bad => rw [ec'] at hl; cases hl
theorem comp_end {Hc : Hp} (c : CI L K σ2 own lks p cf ef xs ds en ss Zs Hs es D xs.length Hc) : ∃ Zc acc, Stp K L.T σ2 Zs Hs es Zc (hide D Hc) en ∧ Hc D = some (.lst acc) ∧ DpAll K Zc acc ds := by
  obtain ⟨Zc, ec, acc, dd, rest, sc, hD, da, hl, hds, hw, hss⟩ := c
  rw [List.drop_length] at hl
  unfold compLoop at hl
  cases hl
  rw [List.append_nil] at hds
  subst hds
  exact ⟨Zc, acc, sc, hD, da⟩
/-- the loop as HandS wants it -/
theorem comp_W {b : Bool} {Qd : Hp → Prop} (hpt : b = true → p.isT = true) (hsub : ∀ j ∈ p.sl, j ∈ own) (hz : szOk ds.length = true) (wk : WkOk b K J xs ss) {H1 : Hp} (h0 : CI L K (wipe σ own) own lks p cf ef xs ds en ss Zs Hs es D 0 H1)
    (hQ : ∀ H, CI L K (wipe σ own) own lks p cf ef xs ds en ss Zs Hs es D xs.length H → Qd H) : ∃ W : Nat → Nat → Hp → Prop, (∃ m, W 0 m H1) ∧ ∀ i m H, W i m H →
      (J.stop i H ∧ Qd H) ∨ (J.go i H ∧ ∃ Nx : Hp → Prop, (∀ H', Nx H' → ∃ m', m' < m ∧ W (i + 1) m' H') ∧ ∀ x H', J.yld i H x H' → gP K p x (wipe σ own) H' fun σ2 H2 => wipe σ2 own = wipe σ own ∧ tT L K noE cf σ2 H2 fun b H3 =>
        if b = true then tR L K noE ef σ2 H3 fun y H4 => ∃ acc, H4 D = some (.lst acc) ∧ acc.length < sizeLine ∧ Nx (upd H4 D (.lst (acc ++ [y]))) else Nx H3) := by
  refine ⟨fun i m H => m = xs.length - i ∧ i ≤ xs.length ∧ CI L K (wipe σ own) own lks p cf ef xs ds en ss Zs Hs es D i H, ⟨xs.length, by simp, Nat.zero_le _, h0⟩, ?_⟩
  rintro i m H ⟨rfl, hi, c⟩
  have src : ∃ Zc, ∀ s ∈ ss, SrcH K Zc H s := by
    obtain ⟨Zc, ec, acc, dd, rest, sc, hD, da, hl, hds, hw, hss⟩ := c
    exact ⟨Zc, fun s hs => ((hss s hs).unhide).h sc.re.unhide⟩
  obtain ⟨Zc, src⟩ := src
  by_cases hlt : i < xs.length
  · refine .inr ⟨wk.go Zc H i src hlt, CI L K (wipe σ own) own lks p cf ef xs ds en ss Zs Hs es D (i + 1), fun H' c' => ⟨xs.length - (i + 1), by omega, rfl, hlt, c'⟩, fun x H' y => comp_turn hpt hsub hz c hlt (fun _ h => h) wk y⟩
  · have e : i = xs.length := by omega
    subst e
    exact .inl ⟨wk.stop Zc H src, hQ H c⟩
end
end
end PL

/-! part PLCmp4 -/
set_option Elab.async false
set_option linter.all false
set_option autoImplicit false
set_option maxRecDepth 100000
set_option maxHeartbeats 4000000
namespace PL
open PySem PySem.Spec PyProof.Rows L2
section
variable {L : Lk} {CX : CXT} {k : Nat} {Ew : XK} {N : List Str} {sc : Scope} {X : Cx} {K : PySem.W.Frag} {T : Tb} {σ σ2 : St} {Z H Z0 H0 Z1 H1 Z2 H2 Z3 H3 Z4 H4 : Hp} {env env1 env2 e0 e1 e2 e3 : En} {D : Addr}
theorem Stp.showD (s : Stp K T σ Z H env Z1 (PL.hide D H1) e1) (hD : H D = none) : Stp K T σ Z H env Z1 H1 e1 :=
  ⟨s.re.unhide, ⟨s.mv.ez, fun b o e n1 n2 n3 => (hide_some (s.mv.kp b o e n1 n2 n3)).2, fun b e => by
    have h := s.mv.dm b e
    cases q : PL.hide D H1 b with
    | none => exact absurd q h
    | some o => rw [(hide_some q).2]; simp, s.mv.gr⟩, s.ow, s.io, s.lk⟩
def ownN (N : List Str) (own : List Nat) : List (Str × Nat) := own.map fun i => (N.getD i "", i)
theorem ownN_snd (N : List Str) (own : List Nat) : (ownN N own).map (·.2) = own := by
  unfold ownN
  rw [List.map_map]
  exact List.map_id' _
/-- a block in the context of its def -/
abbrev Xb (X : Cx) (s : Shared) (H : Hp) (scope : Scope) (cl : List (Str × Addr)) (C : Addr) (fp : List Addr) : Cx := X.blk s H scope (compEnvC scope cl C X.env) fp
theorem Cq.blk (c : Cq L CX k Ew N sc X) {scope : Scope} {s : Shared} {H : Hp} {cl : List (Str × Addr)} {C : Addr} {fp : List Addr} : Cq L CX k noE N (relS scope sc) (Xb X s H scope cl C fp) where
  sc := by rw [← c.sc]; rfl
  N := c.N
  calm := c.calm
  room := c.room
  nd := c.nd
  pass := fun pins σ H s e s' I h => absurd h (c.cx0 _ _ _ _ _)
  cx0 := c.cx0
  blt := c.blt
  gl := c.gl
  tk := c.tk
theorem sto_blk (c : Cq L CX k Ew N sc X) {scope : Scope} {s : Shared} {H : Hp} {cl : List (Str × Addr)} {C : Addr} {fp : List Addr} : Sto N scope (Xb X s H scope cl C fp) := by
  refine ⟨c.N, c.nd, c.calm, fun x h => ?_⟩
  unfold isLoc at h
  have hsc : (Xb X s H scope cl C fp).env.scope = relS scope X.env.scope := rfl
  rw [hsc]
  split at h
  · rename_i e
    have := lookup_relS_keep (sc := X.env.scope) (names := scope.names) (x := x) (k := .local) (by decide) e
    exact ⟨.inl this, .inr this⟩
  · rename_i e
    have := lookup_relS_keep (sc := X.env.scope) (names := scope.names) (x := x) (k := .cell) (by decide) e
    refine ⟨.inr this, .inl ?_⟩
    show (scope.names.lookup x == some .cell) = true
    rw [e]
    rfl
  · cases h
theorem FnIn.blk {f : Nat} {x : Str} (h : FnIn L CX k X f x) {scope : Scope} {s : Shared} {H : Hp} {cl : List (Str × Addr)} {C : Addr} {fp : List Addr} : FnIn L CX k (Xb X s H scope cl C fp) f x := ⟨h.nd, h.ex⟩
def notSet : Expr → Bool
  | .Set _ _ _ => false
  | _ => true
theorem folded_of {e : Expr} {env : Env} (h : notSet e = true) : ∀ x, foldedSetIterable e env x = pure x := fun x => by
  cases e <;> first | rfl | cases h
def cfOf (L : Lk) (hc : Bool) (c : E) : En → Out Bool := fun en => if hc then tst (evE L.ft L.gl c en) else .ok true en
theorem c_comp (c0 : Cq L CX k Ew N sc X) {own : List Nat} {p : Pat} {it : It} {hc : Bool} {c e : E} {elt tg iter : Expr} {ifs : List Expr} {scope : Scope} {pos : Pos} (hb : blkC N sc scope (ownN N own) = true) (hp : chkP N scope p tg = true) (hpt : it.pr = true → p.isT = true) (hsub : ∀ j ∈ p.sl, j ∈ own)
    (hi : PI X tg iter (tI L X.K Ew it)) (ht : ∀ (s : Shared) (H : Hp) (C : Addr) (cl : List (Str × Addr)) (fp : List Addr), PTs (Xb X s H scope cl C fp) ifs (tT L X.K noE (cfOf L hc c)))
    (he : ∀ (s : Shared) (H : Hp) (C : Addr) (cl : List (Str × Addr)) (fp : List Addr), PE (Xb X s H scope cl C fp) elt (tE L X.K noE e)) (hs : notSet iter = true) :
    PE X (.ListComp elt [⟨tg, iter, ifs, 0⟩] scope pos) (tE L X.K Ew (.comp own p it hc c e)) ∧
    ∀ {i : Nat} {y : Str} {py spos : Pos}, X.N[i]? = some y → X.env.scope.names.lookup y = some .local → swapsWith (.ListComp elt [⟨tg, iter, ifs, 0⟩] scope pos) (some (.Name y py)) spos.line X.env = pure true →
      PS X (.Assign [.Name y py] (.ListComp elt [⟨tg, iter, ifs, 0⟩] scope pos) spos) (tAsg (tE L X.K Ew (.comp own p it hc c e)) (gName i)) := by
  have hok : BlkOk X.N X.env.scope scope (ownN N own) := by
    rw [c0.N, c0.sc]
    exact blkOk_by hb
  have hg : ∀ (s : Shared) (H : Hp) (C : Addr) (cl : List (Str × Addr)) (fp : List Addr), PG (Xb X s H scope cl C fp) tg (gP X.K p) := fun s H C cl fp => pg_pat (sto_blk c0) hp
  have main : ∀ σ H Q, tE L X.K Ew (.comp own p it hc c e) σ H Q → tLc (tI L X.K Ew it) (gP X.K p) (tT L X.K noE (cfOf L hc c)) (tE L X.K noE e) ((ownN N own).map (·.2)) σ H Q := fun σ H Q q => by
    rw [ownN_snd]
    obtain ⟨Z, env, r0, h⟩ := q
    simp only [evE] at h
    refine ⟨Z, env, r0, h.bind fun xs e1 Z1 H1 s1 h1 J ss wk sin D hD => ?_⟩
    split at h1
    · rename_i w
      have ecf : (fun en => if hc = true then tst (evE L.ft L.gl c en) else Out.ok true en) = cfOf L hc c := rfl
      rw [ecf] at h1
      have eef : (fun en => evE L.ft L.gl e en) = evE L.ft L.gl e := rfl
      rw [eef] at h1
      cases el : compLoop own (bindP p) (cfOf L hc c) (evE L.ft L.gl e) xs (lockE (wipeE e1 own) it.lk) with
      | ok ds en =>
        rw [el] at h1
        unfold compEnd at h1
        split at h1
        · rename_i ds' en' heq
          cases heq
          split at h1
          · rename_i hz
            have rb := re_block s1.re w
            refine comp_W (lks := it.lk) (ds := ds) (en := en) (Zs := Z1) (Hs := H1) (es := lockE (wipeE e1 own) it.lk) hpt hsub hz wk ⟨Z1, _, [], [], ds, ?_, upd_same, .nil, el, rfl, fun j hj => ?_, fun s hs => ?_⟩ fun Hc ce => ?_
            · rw [hide_upd, hide_free hD]
              exact Stp.refl rb
            · rw [lockE_gt, wipeE_gt, if_pos hj]
              split <;> rfl
            · rw [hide_upd, hide_free hD]
              exact SrcS.of w (sin s hs)
            · obtain ⟨Zc, acc, sc, hDc, da⟩ := comp_end ce
              have sb := Stp.back s1.re w sc
              have hd1 : H1 D = none := hD
              have sf := s1.trans (Stp.showD sb hd1)
              exact h1 _ _ sf (.ref D) ⟨D, acc, rfl, free_of s1.mv.dm hd1, hDc, (sc.re.offD).1, da⟩
          · exact h1.elim
        · rename_i heq
          exact absurd rfl (heq ds en)
      | exc c s e =>
        rw [el] at h1
        exact h1.elim
      | bad =>
        rw [el] at h1
        exact h1.elim
    · exact h1.elim
  refine ⟨peImp (pe_lc c0.calm c0.nd hi hok hg ht he (folded_of hs)) main, fun {i y py spos} hy hyl hsw => psImp (ps_setLc c0.calm c0.nd hy hyl hsw hi hok hg ht he (folded_of hs)) fun D σ H q => main σ H _ q⟩
end
end PL

/-! part PLCmp5 -/
set_option Elab.async false
set_option linter.all false
set_option autoImplicit false
set_option maxRecDepth 100000
set_option maxHeartbeats 4000000
/-! list comprehensions of two fors -/
namespace PL
open PySem PySem.Spec PyProof.Rows L2
section
variable {L : Lk} {K : PySem.W.Frag} {σ σ2 : St} {D : Addr}
/-- the state ahead of the outer turn i -/
def CI2 (L : Lk) (K : PySem.W.Frag) (σw : St) (own lks : List Nat) (p : Pat) (inn : En → Out (List PyData)) (xs ds : List PyData) (en : En) (ss : List Src) (Zs Hs : Hp) (es : En) (D : Addr) (i : Nat) (Hc : Hp) : Prop :=
  ∃ Zc ec acc dd rest, Stp K L.T σw Zs Hs es Zc (hide D Hc) ec ∧ Hc D = some (.lst acc) ∧ DpAll K Zc acc dd ∧ compOut own (bindP p) inn (xs.drop i) ec = .ok rest en ∧ dd ++ rest = ds ∧ (∀ j ∈ own, ec.gt j = .non) ∧ ∀ s ∈ ss, SrcS K σw Zc (hide D Hc) ec lks s
def inF (L : Lk) (own2 : List Nat) (p2 : Pat) (it2 : It) (cf : En → Out Bool) (ef : En → Out RV) (en : En) : Out (List PyData) := (evIt L.ft L.gl it2 en).bind fun ys e2 =>
  if walkable own2 e2 it2.lk then (compLoop own2 (bindP p2) cf ef ys (lockE (wipeE e2 own2) it2.lk)).bind fun ds e3 => .ok ds (backE e2 e3 (own2 ++ it2.lk)) else .bad
section
variable {own own2 lks : List Nat} {p p2 : Pat} {it2 : It} {cf : En → Out Bool} {ef : En → Out RV} {xs ds : List PyData} {en : En} {ss : List Src} {Zs Hs : Hp} {es : En} {J : L2.It}
theorem comp2_turn {b : Bool} {c0 : E} {Nx : Hp → Prop} (hpt : b = true → p.isT = true) (hpt2 : it2.pr = true → p2.isT = true) (hsub : ∀ j ∈ p.sl, j ∈ own) (hsub2 : ∀ j ∈ p2.sl, j ∈ own2) (hz : szOk ds.length = true) {i : Nat} {Hc : Hp}
    (c : CI2 L K (wipe σ own) own lks p (inF L own2 p2 it2 cf ef) xs ds en ss Zs Hs es D i Hc) (hi : i < xs.length)
    (hn : ∀ H5, CI2 L K (wipe σ own) own lks p (inF L own2 p2 it2 cf ef) xs ds en ss Zs Hs es D (i + 1) H5 → Nx H5) (wk : WkOk b K J xs ss) {x : V} {H'' : Hp} (y : J.yld i Hc x H'') :
    gP K p x (wipe σ own) H'' fun σ2 H2 => wipe σ2 own = wipe σ own ∧ tT L K noE (cfOf L false c0) σ2 H2 fun b H3 => if b = true then tI L K noE it2 σ2 H3 fun J1 H4 => ∃ W1 : Nat → Nat → Hp → Prop, (∃ m, W1 0 m H4) ∧ ∀ j k H, W1 j k H →
      (J1.stop j H ∧ Nx H) ∨ (J1.go j H ∧ ∃ Nx1 : Hp → Prop, (∀ H', Nx1 H' → ∃ k', k' < k ∧ W1 (j + 1) k' H') ∧ ∀ x H', J1.yld j H x H' → gP K p2 x (wipe σ2 own2) H' fun σ3 H5 => wipe σ3 own2 = wipe σ2 own2 ∧ tT L K noE cf σ3 H5 fun b H6 =>
        if b = true then tR L K noE ef σ3 H6 fun y H7 => ∃ acc, H7 D = some (.lst acc) ∧ acc.length < sizeLine ∧ Nx1 (upd H7 D (.lst (acc ++ [y]))) else Nx1 H6) else Nx H3 := by
  obtain ⟨Zc, ec, acc, dd, rest, sc, hD, da, hl, hds, hw, hss⟩ := c
  have r1 := sc.re.unhide
  obtain ⟨zD, nl⟩ := sc.re.offD
  have ed : xs[i]? = some xs[i] := List.getElem?_eq_getElem hi
  generalize xs[i] = d at ed
  rw [drop_at ed] at hl
  have yl := wk.yld Zc Hc i x H'' d (fun s hs => ((hss s hs).unhide).h r1) y ed
  obtain ⟨sd, hbd⟩ := yl_bind hpt r1 yl
  obtain ⟨hD2, sdh⟩ := sd.hide zD nl hD
  unfold compOut at hl
  cases eb : bindP p d ec with
  | none => rw [eb] at hl; cases hl
  | some e1 =>
    rw [eb] at hl
    dsimp only at hl
    refine hbd eb fun σ2 r2 bn => ⟨wipe_wipe bn hsub, Zc, e1, r2, post_ok (a := true) (e1 := e1) rfl fun Z2 H2 s2 => ?_⟩
    dsimp only
    rw [if_pos rfl]
    -- the place of the new list is no slot's
    have nl2 : ¬ LsAt e1 σ2 D := fun ⟨j, hj, ej⟩ => by
      by_cases cj : j ∈ p.sl
      · rw [(bn.on j cj).1] at hj; cases hj
      · obtain ⟨h1, h2⟩ := bn.off j cj
        exact nl ⟨j, by rw [← h1]; exact hj, by rw [← h2]; exact ej⟩
    cases ei : inF L own2 p2 it2 cf ef e1 with
    | exc c s e2 => rw [ei] at hl; cases hl
    | bad => rw [ei] at hl; cases hl
    | ok ds2 e4 =>
      rw [ei] at hl
      dsimp only at hl
      cases el : compOut own (bindP p) (inF L own2 p2 it2 cf ef) (xs.drop (i + 1)) (wipeE e4 own) with
      | exc c s e2 => rw [el] at hl; cases hl
      | bad => rw [el] at hl; cases hl
      | ok ds' e5 =>
        rw [el] at hl
        cases hl
        unfold inF at ei
        cases e3 : evIt L.ft L.gl it2 e1 with
        | exc c s e2 => rw [e3] at ei; cases ei
        | bad => rw [e3] at ei; cases ei
        | ok ys e2 =>
          rw [e3] at ei
          have ei : (if walkable own2 e2 it2.lk = true then (compLoop own2 (bindP p2) cf ef ys (lockE (wipeE e2 own2) it2.lk)).bind fun ds e3 => Out.ok ds (backE e2 e3 (own2 ++ it2.lk)) else Out.bad) = Out.ok ds2 e4 := ei
          split at ei
          · rename_i w2
            cases el2 : compLoop own2 (bindP p2) cf ef ys (lockE (wipeE e2 own2) it2.lk) with
            | exc c s e6 => rw [el2] at ei; cases ei
            | bad => rw [el2] at ei; cases ei
            | ok dz e6 =>
              rw [el2] at ei
              cases ei
              refine ⟨Z2, e1, s2.re, post_ok e3 fun Z3 H3 s3 J1 ss1 wk1 sin1 => ?_⟩
              obtain ⟨hD3, s3h⟩ := (s2.trans s3).hide zD nl2 hD2
              have da3 := dpa_mono s3h.mv.ez _ da
              have off3 := s3h.re.offD
              have rb := re_block s3h.re w2
              have hz2 : szOk (dd ++ ds2).length = true := by
                unfold szOk at hz ⊢
                rw [decide_eq_true_eq] at hz ⊢
                rw [← hds, List.length_append, List.length_append] at hz
                rw [List.length_append]
                omega
              refine comp_W (lks := it2.lk) (ds := dd ++ ds2) (en := e6) (Zs := Z3) (Hs := PL.hide D H3) (es := lockE (wipeE e2 own2) it2.lk) (D := D) hpt2 hsub2 hz2 wk1 ⟨Z3, _, acc, dd, ds2, Stp.refl rb, hD3, da3, el2, rfl, fun j hj => ?_, fun s hs => ?_⟩ fun H5 ce => ?_
              · rw [lockE_gt, wipeE_gt, if_pos hj]
                split <;> rfl
              · exact (SrcS.of w2 (sin1 s hs)).hide fun ⟨j, hj, ej⟩ => by
                  rw [lockE_gt, wipeE_gt] at hj
                  by_cases cj : j ∈ own2
                  · rw [if_pos cj] at hj
                    split at hj <;> cases hj
                  · rw [if_neg cj] at hj
                    rw [sg_wipe, if_neg cj] at ej
                    refine off3.2 ⟨j, ?_, ej⟩
                    split at hj
                    · rw [isL_lock] at hj; exact hj
                    · exact hj
              · obtain ⟨Z5, acc5, sc5, hD5, da5⟩ := comp_end ce
                have sbk := Stp.back s3h.re w2 sc5
                have all := sdh.trans (Stp.rebase bn hsub hw (wipe_wipe bn hsub) (s3h.trans sbk))
                refine hn _ ⟨Z5, _, acc5, dd ++ ds2, ds', sc.trans all, hD5, da5, el, by rw [← hds, List.append_assoc], fun j hj => by rw [wipeE_gt, if_pos hj], fun s hs => (hss s hs).mono sc.re all⟩
          · cases ei
theorem comp2_end {Hc : Hp} {inn : En → Out (List PyData)} (c : CI2 L K σ2 own lks p inn xs ds en ss Zs Hs es D xs.length Hc) : ∃ Zc acc, Stp K L.T σ2 Zs Hs es Zc (hide D Hc) en ∧ Hc D = some (.lst acc) ∧ DpAll K Zc acc ds := by
  obtain ⟨Zc, ec, acc, dd, rest, sc, hD, da, hl, hds, hw, hss⟩ := c
  rw [List.drop_length] at hl
  unfold compOut at hl
  cases hl
  rw [List.append_nil] at hds
  subst hds
  exact ⟨Zc, acc, sc, hD, da⟩
end
end
section
variable {L : Lk} {CX : CXT} {k : Nat} {Ew : XK} {N : List Str} {sc : Scope} {X : Cx}
theorem c_comp2 (c0 : Cq L CX k Ew N sc X) {own own2 : List Nat} {p p2 : Pat} {it it2 : It} {hc : Bool} {c e : E} {elt tg iter tg1 iter1 : Expr} {ifs : List Expr} {scope : Scope} {pos : Pos} (hb : blkC N sc scope (ownN N own) = true) (hp : chkP N scope p tg = true) (hp2 : chkP N scope p2 tg1 = true)
    (hpt : it.pr = true → p.isT = true) (hpt2 : it2.pr = true → p2.isT = true) (hsub : ∀ j ∈ p.sl, j ∈ own) (hsub2 : ∀ j ∈ p2.sl, j ∈ own2) (ho : ∀ j ∈ own2, j ∈ own)
    (hi : PI X tg iter (tI L X.K Ew it)) (hi1 : ∀ (s : Shared) (H : Hp) (C : Addr) (cl : List (Str × Addr)) (fp : List Addr), PI (Xb X s H scope cl C fp) tg1 iter1 (tI L X.K noE it2)) (ht : ∀ (s : Shared) (H : Hp) (C : Addr) (cl : List (Str × Addr)) (fp : List Addr), PTs (Xb X s H scope cl C fp) ifs (tT L X.K noE (cfOf L hc c)))
    (he : ∀ (s : Shared) (H : Hp) (C : Addr) (cl : List (Str × Addr)) (fp : List Addr), PE (Xb X s H scope cl C fp) elt (tE L X.K noE e)) (hs : notSet iter = true) (hs1 : notSet iter1 = true) :
    PE X (.ListComp elt [⟨tg, iter, [], 0⟩, ⟨tg1, iter1, ifs, 0⟩] scope pos) (tE L X.K Ew (.comp2 own own2 p it p2 it2 hc c e)) ∧
    ∀ {i : Nat} {y : Str} {py spos : Pos}, X.N[i]? = some y → X.env.scope.names.lookup y = some .local → swapsWith (.ListComp elt [⟨tg, iter, [], 0⟩, ⟨tg1, iter1, ifs, 0⟩] scope pos) (some (.Name y py)) spos.line X.env = pure true →
      PS X (.Assign [.Name y py] (.ListComp elt [⟨tg, iter, [], 0⟩, ⟨tg1, iter1, ifs, 0⟩] scope pos) spos) (tAsg (tE L X.K Ew (.comp2 own own2 p it p2 it2 hc c e)) (gName i)) := by
  have hok : BlkOk X.N X.env.scope scope (ownN N own) := by
    rw [c0.N, c0.sc]
    exact blkOk_by hb
  have hg : ∀ (s : Shared) (H : Hp) (C : Addr) (cl : List (Str × Addr)) (fp : List Addr), PG (Xb X s H scope cl C fp) tg (gP X.K p) := fun s H C cl fp => pg_pat (sto_blk c0) hp
  have hg1 : ∀ (s : Shared) (H : Hp) (C : Addr) (cl : List (Str × Addr)) (fp : List Addr), PG (Xb X s H scope cl C fp) tg1 (gP X.K p2) := fun s H C cl fp => pg_pat (sto_blk c0) hp2
  have ht0 : ∀ (s : Shared) (H : Hp) (C : Addr) (cl : List (Str × Addr)) (fp : List Addr), PTs (Xb X s H scope cl C fp) [] (tT L X.K noE (cfOf L false c)) := fun s H C cl fp =>
    ⟨fun pins s σ H Q I q => pts_nil.run pins s σ H Q I (by
      obtain ⟨Z, env, r0, q⟩ := q
      exact q Z H (Stp.refl r0))⟩
  have hv : ∀ i ∈ own2, i ∈ (ownN N own).map (·.2) := fun i h => by rw [ownN_snd]; exact ho i h
  have main : ∀ σ H Q, tE L X.K Ew (.comp2 own own2 p it p2 it2 hc c e) σ H Q → tLc2 (tI L X.K Ew it) (gP X.K p) (tT L X.K noE (cfOf L false c)) (tI L X.K noE it2) (gP X.K p2) (tT L X.K noE (cfOf L hc c)) (tE L X.K noE e) ((ownN N own).map (·.2)) own2 σ H Q := fun σ H Q q => by
    rw [ownN_snd]
    obtain ⟨Z, env, r0, h⟩ := q
    simp only [evE] at h
    refine ⟨Z, env, r0, h.bind fun xs e1 Z1 H1 s1 h1 J ss wk sin D hD => ?_⟩
    split at h1
    · rename_i w
      have einn : (fun en => (evIt L.ft L.gl it2 en).bind fun ys e2 => if walkable own2 e2 it2.lk = true then (compLoop own2 (bindP p2) (fun en => if hc = true then tst (evE L.ft L.gl c en) else Out.ok true en) (fun en => evE L.ft L.gl e en) ys (lockE (wipeE e2 own2) it2.lk)).bind fun ds e3 => Out.ok ds (backE e2 e3 (own2 ++ it2.lk)) else Out.bad) = inF L own2 p2 it2 (cfOf L hc c) (evE L.ft L.gl e) := rfl
      rw [einn] at h1
      cases el : compOut own (bindP p) (inF L own2 p2 it2 (cfOf L hc c) (evE L.ft L.gl e)) xs (lockE (wipeE e1 own) it.lk) with
      | ok ds en =>
        rw [el] at h1
        unfold compEnd at h1
        split at h1
        · rename_i ds' en' heq
          cases heq
          split at h1
          · rename_i hz
            have rb := re_block s1.re w
            have start : CI2 L X.K (wipe σ own) own it.lk p (inF L own2 p2 it2 (cfOf L hc c) (evE L.ft L.gl e)) xs ds en ss Z1 H1 (lockE (wipeE e1 own) it.lk) D 0 (upd H1 D (.lst [])) := by
              refine ⟨Z1, _, [], [], ds, ?_, upd_same, .nil, el, rfl, fun j hj => ?_, fun s hs => ?_⟩
              · rw [hide_upd, hide_free hD]
                exact Stp.refl rb
              · rw [lockE_gt, wipeE_gt, if_pos hj]
                split <;> rfl
              · rw [hide_upd, hide_free hD]
                exact SrcS.of w (sin s hs)
            refine ⟨fun i m H => m = xs.length - i ∧ i ≤ xs.length ∧ CI2 L X.K (wipe σ own) own it.lk p (inF L own2 p2 it2 (cfOf L hc c) (evE L.ft L.gl e)) xs ds en ss Z1 H1 (lockE (wipeE e1 own) it.lk) D i H, ⟨xs.length, by simp, Nat.zero_le _, start⟩, ?_⟩
            rintro i m H ⟨rfl, hi, cc⟩
            have src : ∃ Zc, ∀ s ∈ ss, SrcH X.K Zc H s := by
              obtain ⟨Zc, ec, acc, dd, rest, sc, hD, da, hl, hds, hw, hss⟩ := cc
              exact ⟨Zc, fun s hs => ((hss s hs).unhide).h sc.re.unhide⟩
            obtain ⟨Zc, src⟩ := src
            by_cases hlt : i < xs.length
            · exact .inr ⟨wk.go Zc H i src hlt, CI2 L X.K (wipe σ own) own it.lk p (inF L own2 p2 it2 (cfOf L hc c) (evE L.ft L.gl e)) xs ds en ss Z1 H1 (lockE (wipeE e1 own) it.lk) D (i + 1), fun H' c' => ⟨xs.length - (i + 1), by omega, rfl, hlt, c'⟩, fun x H' y => comp2_turn hpt hpt2 hsub hsub2 hz cc hlt (fun _ h => h) wk y⟩
            · have ei : i = xs.length := by omega
              subst ei
              refine .inl ⟨wk.stop Zc H src, ?_⟩
              obtain ⟨Zc, acc, sc, hDc, da⟩ := comp2_end cc
              have sb := Stp.back s1.re w sc
              have hd1 : H1 D = none := hD
              have sf := s1.trans (Stp.showD sb hd1)
              exact h1 _ _ sf (.ref D) ⟨D, acc, rfl, free_of s1.mv.dm hd1, hDc, (sc.re.offD).1, da⟩
          · exact h1.elim
        · rename_i heq
          exact absurd rfl (heq ds en)
      | exc c s e =>
        rw [el] at h1
        exact h1.elim
      | bad =>
        rw [el] at h1
        exact h1.elim
    · exact h1.elim
  refine ⟨peImp (pe_lc2 c0.calm c0.nd hi hok hv hg ht0 hi1 hg1 ht he (folded_of hs) (fun env => folded_of hs1)) main, fun {i y py spos} hy hyl hsw => psImp (ps_setLc2 c0.calm c0.nd hy hyl hsw hi hok hv hg ht0 hi1 hg1 ht he (folded_of hs) (fun env => folded_of hs1)) fun D σ H q => main σ H _ q⟩
end
end PL

/-! part PLStm -/
set_option Elab.async false
set_option linter.all false
set_option autoImplicit false
set_option maxRecDepth 100000
set_option maxHeartbeats 4000000
/-! statements -/
namespace PL
open PySem PySem.Spec PyProof.Rows L2

structure StpS (K : PySem.W.Frag) (T : Tb) (Z H : Hp) (env : En) (σ : St) (Z' H' : Hp) (env' : En) (σ' : St) : Prop where
  re : RE K T Z' H' env' σ'
  mv : Mv (OwnAt env σ) (IoAt env σ) Z H Z' H'
  ow : ∀ b, OwnAt env' σ' b → OwnAt env σ b ∨ H b = none
  io : ∀ i, isIo (env'.gt i) = isIo (env.gt i) ∧ (isIo (env.gt i) = true → sg σ' i = sg σ i)
  ln : env'.length = env.length
section
variable {K : PySem.W.Frag} {T : Tb} {σ σ1 σ2 σ3 : St} {Z H Z0 H0 Z1 H1 Z2 H2 Z3 H3 : Hp} {env env1 env2 env3 e0 e1 e2 e3 : En}
theorem Stp.len (r : RE K T Z H env σ) (s : Stp K T σ Z H env Z1 H1 e1) : e1.length = env.length := by rw [s.re.len, r.len]
theorem Stp.toS (r : RE K T Z H env σ) (s : Stp K T σ Z H env Z1 H1 e1) : StpS K T Z H env σ Z1 H1 e1 σ :=
  ⟨s.re, s.mv, fun b h => .inl (s.owAt h), fun i => ⟨s.io i, fun _ => rfl⟩, s.len r⟩
theorem StpS.refl (r : RE K T Z H env σ) : StpS K T Z H env σ Z H env σ := (Stp.refl r).toS r
theorem StpS.ioAt (s : StpS K T Z H env σ Z1 H1 e1 σ1) {b : Addr} : IoAt e1 σ1 b → IoAt env σ b := fun ⟨i, h, e⟩ => by
  rw [(s.io i).1] at h
  exact ⟨i, h, (s.io i).2 h ▸ e⟩
theorem StpS.trans (a : StpS K T Z H env σ Z1 H1 e1 σ1) (b : StpS K T Z1 H1 e1 σ1 Z2 H2 e2 σ2) : StpS K T Z H env σ Z2 H2 e2 σ2 where
  re := b.re
  mv := by
    refine ⟨a.mv.ez.trans b.mv.ez, fun c o h n1 n2 n3 => ?_, fun c h => b.mv.dm c (a.mv.dm c h), fun c h => ?_⟩
    · refine b.mv.kp c o (a.mv.kp c o h n1 n2 n3) (fun z => ?_) (fun z => n2 (a.ioAt z)) n3
      rcases a.ow c z with q | q
      · exact n1 q
      · rw [h] at q; cases q
    · rcases b.mv.gr c h with z | z | z
      · exact a.mv.gr c z
      · refine .inr (.inl ?_)
        cases q : H c with
        | none => rfl
        | some u => exact absurd z (a.mv.dm c (by rw [q]; simp))
      · rcases a.ow c z with q | q
        · exact .inr (.inr q)
        · exact .inr (.inl q)
  ow := fun c h => by
    rcases b.ow c h with z | z
    · exact a.ow c z
    · right
      cases q : H c with
      | none => rfl
      | some u => exact absurd z (a.mv.dm c (by rw [q]; simp))
  io := fun i => ⟨(b.io i).1.trans (a.io i).1, fun h => ((b.io i).2 (by rw [(a.io i).1]; exact h)).trans ((a.io i).2 h)⟩
  ln := b.ln.trans a.ln
/-- the state ahead of a statement; Hb: the heap at the def's entry -/
structure At (K : PySem.W.Frag) (T : Tb) (Hb Z H : Hp) (env : En) (σ : St) : Prop where
  re : RE K T Z H env σ
  ow : ∀ b, OwnAt env σ b → Hb b = none
  dm : ∀ b, Hb b ≠ none → H b ≠ none
theorem At.step {Hb : Hp} (a : At K T Hb Z H env σ) (s : StpS K T Z H env σ Z1 H1 e1 σ1) : At K T Hb Z1 H1 e1 σ1 :=
  ⟨s.re, fun b h => by
    rcases s.ow b h with z | z
    · exact a.ow b z
    · cases q : Hb b with
      | none => rfl
      | some u => exact absurd z (a.dm b (by rw [q]; simp)), fun b h => s.mv.dm b (a.dm b h)⟩
/-- a value is stored -/
theorem StpS.val (s : StpS K T Z H env σ Z1 H1 e1 σ1) {i : Nat} {d : PyData} {v : V} (hf : free i e1 = true) (hd : Dp K Z1 v d) : StpS K T Z H env σ Z1 H1 (e1.set i (.val d)) (σ1.set i (some v)) := by
  obtain ⟨h1, h2, h3⟩ := free_slot hf
  refine ⟨re_set s.re h1 hd, s.mv, fun b ⟨j, hj, e⟩ => ?_, fun j => ?_, by rw [List.length_set]; exact s.ln⟩
  · by_cases c : j = i
    · subst c
      rw [gt_set_same h1] at hj
      cases hj
    · rw [gt_set_ne (Ne.symm c)] at hj
      rw [sg_set_ne (Ne.symm c)] at e
      exact s.ow b ⟨j, hj, e⟩
  · by_cases c : j = i
    · subst c
      rw [gt_set_same h1]
      have := (s.io j).1
      rw [h2] at this
      exact ⟨this, fun h => by rw [h] at this; cases this⟩
    · rw [gt_set_ne (Ne.symm c), sg_set_ne (Ne.symm c)]
      exact s.io j
/-- a new list is stored -/
theorem StpS.own (s : StpS K T Z H env σ Z1 H1 e1 σ1) {i : Nat} {xs : List PyData} {p : Addr} {us : List V} (hf : free i e1 = true) (hp : H p = none) (h1 : H1 p = some (.lst us)) (z1 : Z1 p = none) (da : DpAll K Z1 us xs) (np : ¬ LsAt e1 σ1 p) :
    StpS K T Z H env σ Z1 H1 (e1.set i (.own xs)) (σ1.set i (some (.ref p))) := by
  obtain ⟨hi, h2, h3⟩ := free_slot hf
  have hi2 : i < σ1.length := by rw [← s.re.len]; exact hi
  refine ⟨⟨by rw [List.length_set, List.length_set]; exact s.re.len, fun j => ?_, fun j l a hj hl ej el => ?_, s.re.ex, s.re.tb, s.re.pt⟩, s.mv, fun b ⟨j, hj, e⟩ => ?_, fun j => ?_, by rw [List.length_set]; exact s.ln⟩
  · by_cases c : j = i
    · subst c
      rw [gt_set_same hi, sg_set_same hi2]
      exact ⟨p, us, rfl, h1, z1, da⟩
    · rw [gt_set_ne (Ne.symm c), sg_set_ne (Ne.symm c)]
      exact s.re.sl j
  · by_cases cj : j = i
    · by_cases cl : l = i
      · rw [cj, cl]
      · exfalso
        subst cj
        rw [sg_set_same hi2] at ej
        cases ej
        rw [gt_set_ne (Ne.symm cl)] at hl
        rw [sg_set_ne (Ne.symm cl)] at el
        exact np ⟨l, hl, el⟩
    · by_cases cl : l = i
      · exfalso
        subst cl
        rw [sg_set_same hi2] at el
        cases el
        rw [gt_set_ne (Ne.symm cj)] at hj
        rw [sg_set_ne (Ne.symm cj)] at ej
        exact np ⟨j, hj, ej⟩
      · rw [gt_set_ne (Ne.symm cj)] at hj
        rw [gt_set_ne (Ne.symm cl)] at hl
        rw [sg_set_ne (Ne.symm cj)] at ej
        rw [sg_set_ne (Ne.symm cl)] at el
        exact s.re.ap j l a hj hl ej el
  · by_cases c : j = i
    · subst c
      rw [sg_set_same hi2] at e
      cases e
      exact .inr hp
    · rw [gt_set_ne (Ne.symm c)] at hj
      rw [sg_set_ne (Ne.symm c)] at e
      exact s.ow b ⟨j, hj, e⟩
  · by_cases c : j = i
    · subst c
      rw [gt_set_same hi]
      have := (s.io j).1
      rw [h2] at this
      exact ⟨this, fun h => by rw [h] at this; cases this⟩
    · rw [gt_set_ne (Ne.symm c), sg_set_ne (Ne.symm c)]
      exact s.io j
theorem forgE_len {env : En} : ∀ is : List Nat, (forgE env is).length = env.length
  | [] => rfl
  | i :: is => by
    unfold forgE
    split
    · exact forgE_len is
    · exact forgE_len is
    · rw [List.length_set, forgE_len is]
theorem forgE_gt {env : En} (j : Nat) : ∀ is : List Nat, (forgE env is).gt j = env.gt j ∨ ((forgE env is).gt j = .non ∧ isIo (env.gt j) = false)
  | [] => .inl rfl
  | i :: is => by
    have ih := forgE_gt (env := env) j is
    unfold forgE
    split
    · exact ih
    · exact ih
    · rename_i h1 h2
      rw [gt_set]
      by_cases c : i = j ∧ i < (forgE env is).length
      · rw [if_pos c]
        refine .inr ⟨rfl, ?_⟩
        rw [← c.1]
        cases q : env.gt i with
        | io xs => exact absurd q (h1 xs)
        | _ => rfl
      · rw [if_neg c]; exact ih
/-- slots forgotten -/
theorem StpS.forg (s : StpS K T Z H env σ Z1 H1 e1 σ1) (w : List Nat) : StpS K T Z H env σ Z1 H1 (forgE e1 w) σ1 := by
  refine ⟨s.re.sub (by rw [forgE_len]; exact s.re.len) fun j => ?_, s.mv, fun b ⟨j, hj, e⟩ => ?_, fun j => ?_, by rw [forgE_len]; exact s.ln⟩
  · rcases forgE_gt (env := e1) j w with h | h
    · exact .inr ⟨rfl, .inl h⟩
    · exact .inl h.1
  · rcases forgE_gt (env := e1) j w with h | h
    · rw [h] at hj; exact s.ow b ⟨j, hj, e⟩
    · rw [h.1] at hj; cases hj
  · rcases forgE_gt (env := e1) j w with h | h
    · rw [h]; exact s.io j
    · have := (s.io j).1
      rw [h.2] at this
      rw [h.1]
      exact ⟨this, (s.io j).2⟩
end

section
variable (L : Lk) (K : PySem.W.Frag) (Ew : XK)
def PostS (Hb : Hp) (D : Ends) (Z H : Hp) (env : En) (σ : St) : SOut → Prop
  | .nx e1 => ∀ Z1 H1 σ1, StpS K L.T Z H env σ Z1 H1 e1 σ1 → D.nx σ1 H1
  | .ret r e1 => ∀ Z1 H1 σ1, StpS K L.T Z H env σ Z1 H1 e1 σ1 → ∀ u, Got K Hb Z1 H1 r u → D.rt u H1
  | .brk e1 => ∀ Z1 H1 σ1, StpS K L.T Z H env σ Z1 H1 e1 σ1 → D.bk σ1 H1
  | .exc c s e1 => ∀ Z1 H1 σ1, StpS K L.T Z H env σ Z1 H1 e1 σ1 → ∀ C fld dd, L.xc[c]? = some (C, fld) → H1 dd = some (.xd [(fld, .str s)]) → Ew (.ref C) (some dd) H1
  | .bad => False
def tX (f : En → SOut) : TS := fun D σ H => ∃ Hb Z env, At K L.T Hb Z H env σ ∧ PostS L K Ew Hb D Z H env σ (f env)
end
section
variable {L : Lk} {CX : CXT} {k : Nat} {Ew : XK} {N : List Str} {sc : Scope} {X : Cx} {K : PySem.W.Frag} {T : Tb} {σ σ1 σ2 : St} {Hb Z H Z0 H0 Z1 H1 Z2 H2 Z3 H3 Z4 H4 : Hp} {env env1 env2 e0 e1 e2 e3 : En} {D D' : Ends}
theorem PostS.step {o : SOut} (h : PostS L K Ew Hb D Z H env σ o) (s : StpS K L.T Z H env σ Z1 H1 e1 σ1) : PostS L K Ew Hb D Z1 H1 e1 σ1 o := by
  cases o with
  | nx e => exact fun Z2 H2 σ2 s2 => h Z2 H2 σ2 (s.trans s2)
  | ret r e => exact fun Z2 H2 σ2 s2 => h Z2 H2 σ2 (s.trans s2)
  | brk e => exact fun Z2 H2 σ2 s2 => h Z2 H2 σ2 (s.trans s2)
  | exc c x e => exact fun Z2 H2 σ2 s2 => h Z2 H2 σ2 (s.trans s2)
  | bad => exact h
theorem tX_of {f : En → SOut} (a : At K L.T Hb Z H env σ) (s : StpS K L.T Z H env σ Z1 H1 e1 σ1) (h : PostS L K Ew Hb D Z H env σ (f e1)) : tX L K Ew f D σ1 H1 := ⟨Hb, Z1, e1, a.step s, h.step s⟩
/-- an expression of a statement -/
theorem PostS.of {α : Type} {o : Out α} {f : α → En → SOut} {P' : α → En → Hp → Hp → Prop} (a : At K L.T Hb Z H env σ) (h : PostS L K Ew Hb D Z H env σ (SOut.of o f))
    (k : ∀ x e1 Z1 H1, Stp K L.T σ Z H env Z1 H1 e1 → PostS L K Ew Hb D Z H env σ (f x e1) → P' x e1 Z1 H1) : Post L K Ew σ Z H env P' o := by
  cases o with
  | ok x e => exact fun Z1 H1 s => k x e Z1 H1 s h
  | exc c x e => exact fun Z1 H1 s => h Z1 H1 σ (s.toS a.re)
  | bad => exact h
theorem s_nil : PSs X [] (tX L X.K Ew (exSs L.ft L.gl L.fuel .nil)) := pssImp pss_nil fun D σ H q => by
  obtain ⟨Hb, Z, env, a, h⟩ := q
  simp only [exSs] at h
  exact h Z H σ (StpS.refl a.re)
theorem s_cons {s : S} {ss : Ss} {st : Stmt} {rest : List Stmt} (h1 : PS X st (tX L X.K Ew (exS L.ft L.gl L.fuel s))) (h2 : PSs X rest (tX L X.K Ew (exSs L.ft L.gl L.fuel ss))) : PSs X (st :: rest) (tX L X.K Ew (exSs L.ft L.gl L.fuel (.cons s ss))) :=
  pssImp (pss_cons h1 h2) fun D σ H q => by
    obtain ⟨Hb, Z, env, a, h⟩ := q
    simp only [exSs] at h
    refine ⟨Hb, Z, env, a, ?_⟩
    cases e : exS L.ft L.gl L.fuel s env with
    | nx e1 =>
      rw [e] at h
      exact fun Z1 H1 σ1 s1 => tX_of a s1 h
    | ret r e1 => rw [e] at h; exact h
    | brk e1 => rw [e] at h; exact h
    | exc c x e1 => rw [e] at h; exact h
    | bad => rw [e] at h; exact h
theorem s_expr {e : E} {f : Expr} {as : List Expr} {ks : List Keyword} {cp pos : Pos} (he : PE X (.Call f as ks cp) (tE L X.K Ew e)) : PS X (.Expr (.Call f as ks cp) pos) (tX L X.K Ew (exS L.ft L.gl L.fuel (.expr e))) :=
  psImp (ps_expr he rfl) fun D σ H q => by
    obtain ⟨Hb, Z, env, a, h⟩ := q
    simp only [exS] at h
    exact ⟨Z, env, a.re, PostS.of a h fun r e1 Z1 H1 s1 h1 u g => h1 Z1 H1 σ (s1.toS a.re)⟩
theorem s_ret {e : E} {e' : Expr} {pos : Pos} (he : PE X e' (tE L X.K Ew e)) : PS X (.Return (some e') pos) (tX L X.K Ew (exS L.ft L.gl L.fuel (.ret e))) :=
  psImp (ps_ret he) fun D σ H q => by
    obtain ⟨Hb, Z, env, a, h⟩ := q
    simp only [exS] at h
    exact ⟨Z, env, a.re, PostS.of a h fun r e1 Z1 H1 s1 h1 u g => h1 Z1 H1 σ (s1.toS a.re) u (got_base a.dm g)⟩
theorem s_retN {pos : Pos} : PS X (.Return none pos) (tX L X.K Ew (exS L.ft L.gl L.fuel .retN)) :=
  psImp ps_retN fun D σ H q => by
    obtain ⟨Hb, Z, env, a, h⟩ := q
    simp only [exS] at h
    exact h Z H σ (StpS.refl a.re) .non .non
theorem s_retV {i : Nat} {x : Str} {np pos : Pos} (hN : X.N[i]? = some x) (hv : isVis X.env.scope x = true) (hd : (x == ("__debug__" : Str)) = false) (hcd : (x == ("__classdict__" : Str)) = false) : PS X (.Return (some (.Name x np)) pos) (tX L X.K Ew (exS L.ft L.gl L.fuel (.retV i))) :=
  psImp (ps_ret (pe_var hN (vis_of hv) hd hcd)) fun D σ H q => by
    obtain ⟨Hb, Z, env, a, h⟩ := q
    simp only [exS] at h
    have sl := a.re.sl i
    split at h
    · rename_i xs e
      rw [e] at sl
      obtain ⟨p, us, e1, e2, e3, e4⟩ := sl
      refine ⟨.ref p, sg_some e1, ?_⟩
      have hi : i < env.length := gt_some (by rw [e]; simp)
      have st : StpS X.K L.T Z H env σ Z H (env.set i .non) σ := by
        refine ⟨a.re.sub (by rw [List.length_set]; exact a.re.len) fun j => ?_, Mv.refl, fun b ⟨j, hj, ej⟩ => ?_, fun j => ?_, by rw [List.length_set]⟩
        · by_cases c : j = i
          · subst c; exact .inl (gt_set_same hi)
          · exact .inr ⟨rfl, .inl (gt_set_ne (Ne.symm c))⟩
        · by_cases c : j = i
          · subst c; rw [gt_set_same hi] at hj; cases hj
          · rw [gt_set_ne (Ne.symm c)] at hj; exact .inl ⟨j, hj, ej⟩
        · by_cases c : j = i
          · subst c; rw [gt_set_same hi, e]; exact ⟨rfl, fun _ => rfl⟩
          · rw [gt_set_ne (Ne.symm c)]; exact ⟨rfl, fun _ => rfl⟩
      exact h Z H σ st (.ref p) ⟨p, us, rfl, a.ow p ⟨i, by rw [e]; rfl, e1⟩, e2, e3, e4⟩
    · rename_i d e
      rw [e] at sl
      obtain ⟨u, e1, e2⟩ := sl
      exact ⟨u, sg_some e1, h Z H σ (StpS.refl a.re) u e2⟩
    · exact h.elim
theorem s_if {c : E} {a b : Ss} {c' : Expr} {a' b' : List Stmt} {pos : Pos} (hc : PT X c' (tT L X.K Ew (evT L c))) (ha : PSs X a' (tX L X.K Ew (exSs L.ft L.gl L.fuel a))) (hb : PSs X b' (tX L X.K Ew (exSs L.ft L.gl L.fuel b))) :
    PS X (.If c' a' b' pos) (tX L X.K Ew (exS L.ft L.gl L.fuel (.ifS c a b))) :=
  psImp (ps_if hc ha hb) fun D σ H q => by
    obtain ⟨Hb, Z, env, a, h⟩ := q
    simp only [exS] at h
    refine ⟨Z, env, a.re, PostS.of a h fun b e1 Z1 H1 s1 h1 => ?_⟩
    cases b with
    | true => rw [if_pos rfl] at h1 ⊢; exact tX_of a (s1.toS a.re) h1
    | false => rw [if_neg (by decide)] at h1 ⊢; exact tX_of a (s1.toS a.re) h1
theorem s_brk {pos : Pos} : PS X (.Break pos) (tX L X.K Ew (exS L.ft L.gl L.fuel .brk)) :=
  psImp ps_break fun D σ H q => by
    obtain ⟨Hb, Z, env, a, h⟩ := q
    simp only [exS] at h
    exact h Z H σ (StpS.refl a.re)
theorem new_ls (r : RE K L.T Z H env σ) (s : Stp K L.T σ Z H env Z1 H1 e1) {p : Addr} (h : H p = none) : ¬ LsAt e1 σ p := fun z => by
  obtain ⟨us, q, _⟩ := r.ndom (s.lsAt z)
  rw [h] at q
  cases q
/-- name = value -/
theorem set_post {m : Bool} {i : Nat} (a : At K L.T Hb Z H env σ) {r : RV} {u : V} (s1 : Stp K L.T σ Z H env Z1 H1 e1) (g : Got K H Z1 H1 r u) (h : PostS L K Ew Hb D Z H env σ (SOut.opt (setR m i r e1))) : D.nx (σ.set i (some u)) H1 := by
  unfold setR at h
  split at h
  · rename_i hf
    split at h
    · rename_i xs
      obtain ⟨p, us, rfl, h0, h1, z1, da⟩ := g
      exact h Z1 H1 _ ((s1.toS a.re).own hf h0 h1 z1 da (new_ls a.re s1 h0))
    · obtain ⟨Z2, s2, du⟩ := s1.toV a.re g
      exact h Z2 H1 _ ((s2.toS a.re).val hf du)
  · exact h.elim
def isComp : Expr → Bool
  | .ListComp _ _ _ _ => true
  | .SetComp _ _ _ _ => true
  | .DictComp _ _ _ _ _ => true
  | _ => false
theorem swaps_no {e : Expr} {t : Option Expr} {l : Nat} {env : Env} (h : isComp e = false) : swapsWith e t l env = pure false := by
  cases e <;> first | rfl | cases h
theorem s_set {m : Bool} {i : Nat} {x : Str} {e : E} {e' : Expr} {np pos : Pos} (st : Sto N sc X) (hN : X.N[i]? = some x) (hl : isLoc sc x = true) (nc : swapsWith e' (some (.Name x np)) pos.line X.env = pure false) (he : PE X e' (tE L X.K Ew e)) : PS X (.Assign [.Name x np] e' pos) (tX L X.K Ew (exS L.ft L.gl L.fuel (.set m i e))) := by
  obtain ⟨l1, l2⟩ := st.2.2.2 x hl
  refine psImp (ps_set st.2.1 hN l1 he nc l2) fun D σ H q => ?_
  obtain ⟨Hb, Z, env, a, h⟩ := q
  simp only [exS] at h
  exact ⟨Z, env, a.re, PostS.of a h fun r e1 Z1 H1 s1 h1 u g => set_post a s1 g h1⟩
/-- name = [..], from the rule of comprehensions -/
theorem s_setC {m : Bool} {i : Nat} {e : E} {stm : Stmt} (h : PS X stm (tAsg (tE L X.K Ew e) (gName i))) : PS X stm (tX L X.K Ew (exS L.ft L.gl L.fuel (.set m i e))) :=
  psImp h fun D σ H q => by
    obtain ⟨Hb, Z, env, a, h⟩ := q
    simp only [exS] at h
    exact ⟨Z, env, a.re, PostS.of a h fun r e1 Z1 H1 s1 h1 u g => set_post a s1 g h1⟩
end
end PL

/-! part PLStm2 -/
set_option Elab.async false
set_option linter.all false
set_option autoImplicit false
set_option maxRecDepth 100000
set_option maxHeartbeats 4000000
/-! loops -/
namespace PL
open PySem PySem.Spec PyProof.Rows L2
section
variable {L : Lk} {CX : CXT} {k : Nat} {Ew : XK} {N : List Str} {sc : Scope} {X : Cx} {K : PySem.W.Frag} {T : Tb} {σ σ1 σ2 : St} {Hb Z H Z0 H0 Z1 H1 Z2 H2 Z3 H3 Z4 H4 : Hp} {env env1 env2 e0 e1 e2 e3 : En} {D D' : Ends}
theorem StpS.bnd {sl : List Nat} (s : StpS K T Z H env σ Z1 H1 e1 σ1) (r : RE K T Z1 H1 e2 σ2) (b : Bnd sl e1 σ1 e2 σ2) : StpS K T Z H env σ Z1 H1 e2 σ2 := by
  refine ⟨r, s.mv, fun c ⟨j, hj, e⟩ => ?_, fun j => ?_, b.ln.trans s.ln⟩
  · by_cases h : j ∈ sl
    · have := (b.on j h).1
      unfold isL at this
      rw [hj] at this
      cases this
    · obtain ⟨h1, h2⟩ := b.off j h
      rw [h1] at hj
      rw [h2] at e
      exact s.ow c ⟨j, hj, e⟩
  · by_cases h : j ∈ sl
    · obtain ⟨h1, h2, h3⟩ := b.on j h
      have h4 : isIo (e2.gt j) = false := by
        cases q : isIo (e2.gt j) with
        | false => rfl
        | true => unfold isL at h1; rw [q] at h1; simp at h1
      have := (s.io j).1
      rw [h2] at this
      rw [h4]
      exact ⟨this, fun z => by rw [z] at this; cases this⟩
    · obtain ⟨h1, h2⟩ := b.off j h
      rw [h1, h2]
      exact s.io j
def SrcF (K : PySem.W.Frag) (Z : Hp) (s : Src) : Prop := SqS K s.l Z s.a s.us ∧ DpAll K Z s.us s.xs
theorem SrcF.mono {s : Src} (e : Ex Z Z1) (h : SrcF K Z s) : SrcF K Z1 s := ⟨sq_ex e h.1, dpa_mono e _ h.2⟩
theorem SrcF.h {s : Src} (e : Ex Z H) (h : SrcF K Z s) : SrcH K Z H s := ⟨sq_ex e h.1, h.2⟩
theorem s_for {p : Pat} {it : It} {body : Ss} {w : List Nat} {tg iter : Expr} {body' : List Stmt} {pos : Pos} (hp : PassesOwn (model X.prog X.w) X.A X.env X.xe) (st : Sto N sc X) (hlk : it.lk = []) (hi : PI X tg iter (tI L X.K Ew it)) (hg : chkP N sc p tg = true) (hpt : it.pr = true → p.isT = true)
    (hb : PSs X body' (tX L X.K Ew (exSs L.ft L.gl L.fuel body))) (hs : notSet iter = true) : PS X (.For tg iter body' [] pos) (tX L X.K Ew (exS L.ft L.gl L.fuel (.forS p it body w))) :=
  psImp (ps_for hp st.2.2.1 hi (pg_pat st hg) hb (folded_of hs)) fun D σ H q => by
    obtain ⟨Hb, Z, env, a, h⟩ := q
    simp only [exS] at h
    refine ⟨Z, env, a.re, PostS.of a h fun xs e1 Z1 H1 s1 h1 J ss wk sin => ?_⟩
    have eb : (fun en => exSs L.ft L.gl L.fuel body en) = exSs L.ft L.gl L.fuel body := rfl
    rw [eb] at h1
    refine ⟨fun i m σc Hc => m = xs.length - i ∧ i ≤ xs.length ∧ ∃ Zc ec, StpS X.K L.T Z H env σ Zc Hc ec σc ∧ PostS L X.K Ew Hb D Z H env σ (forLoop (bindP p) w (exSs L.ft L.gl L.fuel body) (xs.drop i) ec) ∧ ∀ s ∈ ss, SrcF X.K Zc s,
      ⟨xs.length, by simp, Nat.zero_le _, Z1, forgE e1 w, (s1.toS a.re).forg w, h1, fun s hs => ?_⟩, ?_⟩
    · obtain ⟨da, h | ⟨_, _, i, hi, _⟩⟩ := sin s hs
      · exact ⟨h, da⟩
      · rw [hlk] at hi; cases hi
    rintro i m σc Hc ⟨rfl, hi, Zc, ec, sc, hl, hss⟩
    have src : ∀ s ∈ ss, SrcH X.K Zc Hc s := fun s hs => (hss s hs).h sc.re.ex
    by_cases hlt : i < xs.length
    · refine .inr ⟨wk.go Zc Hc i src hlt, fun σ' H' => ∃ Zc ec, StpS X.K L.T Z H env σ Zc H' ec σ' ∧ PostS L X.K Ew Hb D Z H env σ (forLoop (bindP p) w (exSs L.ft L.gl L.fuel body) (xs.drop (i + 1)) ec) ∧ ∀ s ∈ ss, SrcF X.K Zc s,
        fun σ' H' ⟨Zc, ec, h1, h2, h3⟩ => ⟨xs.length - (i + 1), by omega, rfl, hlt, Zc, ec, h1, h2, h3⟩, fun x H'' y => ?_⟩
      have ed : xs[i]? = some xs[i] := List.getElem?_eq_getElem hlt
      generalize xs[i] = d at ed
      rw [drop_at ed] at hl
      obtain ⟨sd, hbd⟩ := yl_bind hpt sc.re (wk.yld Zc Hc i x H'' d src y ed)
      unfold forLoop at hl
      cases eb : bindP p d ec with
      | none => rw [eb] at hl; exact hl.elim
      | some e1 =>
        rw [eb] at hl
        dsimp only at hl
        have scd := sc.trans (sd.toS sc.re)
        refine hbd eb fun σ2 r2 bn => ?_
        have sb := scd.bnd r2 bn
        refine ⟨Hb, Zc, e1, a.step sb, ?_⟩
        have srcs : ∀ {Z3 H3 e σ3}, StpS X.K L.T Zc H'' e1 σ2 Z3 H3 e σ3 → ∀ s ∈ ss, SrcF X.K Z3 s := fun {Z3 H3 e σ3} s3 s hs => (hss s hs).mono (sd.mv.ez.trans s3.mv.ez)
        cases eo : exSs L.ft L.gl L.fuel body e1 with
        | nx e2 =>
          rw [eo] at hl
          exact fun Z3 H3 σ3 s3 => ⟨Z3, forgE e2 w, (sb.trans s3).forg w, hl, srcs s3⟩
        | brk e2 =>
          rw [eo] at hl
          exact fun Z3 H3 σ3 s3 => hl Z3 H3 σ3 ((sb.trans s3).forg w)
        | ret r e2 =>
          rw [eo] at hl
          exact fun Z3 H3 σ3 s3 => hl Z3 H3 σ3 (sb.trans s3)
        | exc c s e2 =>
          rw [eo] at hl
          exact fun Z3 H3 σ3 s3 => hl Z3 H3 σ3 (sb.trans s3)
        | bad =>
          rw [eo] at hl
          exact hl
    · have e : i = xs.length := by omega
      subst e
      rw [List.drop_length] at hl
      unfold forLoop at hl
      exact .inl ⟨wk.stop Zc Hc src, hl Zc Hc σc sc⟩
theorem s_while {c : E} {body : Ss} {w : List Nat} {c' : Expr} {body' : List Stmt} {pos : Pos} (hp : PassesOwn (model X.prog X.w) X.A X.env X.xe) (hc : PT X c' (tT L X.K Ew (evT L c))) (hb : PSs X body' (tX L X.K Ew (exSs L.ft L.gl L.fuel body))) :
    PS X (.While c' body' [] pos) (tX L X.K Ew (exS L.ft L.gl L.fuel (.whileS c body w))) :=
  psImp (ps_while hp hc hb) fun D σ H q => by
    obtain ⟨Hb, Z, env, a, h⟩ := q
    simp only [exS] at h
    have eb : (fun en => exSs L.ft L.gl L.fuel body en) = exSs L.ft L.gl L.fuel body := rfl
    have ec : (fun en => tst (evE L.ft L.gl c en)) = evT L c := rfl
    rw [eb, ec] at h
    refine ⟨fun m σc Hc => ∃ Zc en, StpS X.K L.T Z H env σ Zc Hc en σc ∧ PostS L X.K Ew Hb D Z H env σ (whileLoop w (evT L c) (exSs L.ft L.gl L.fuel body) m en), ⟨L.fuel, Z, forgE env w, (StpS.refl a.re).forg w, h⟩, ?_⟩
    rintro m σc Hc ⟨Zc, en, sc, hl⟩
    cases m with
    | zero => exact hl.elim
    | succ n =>
      unfold whileLoop at hl
      refine ⟨Zc, en, sc.re, ?_⟩
      cases e1 : evT L c en with
      | ok b e2 =>
        rw [e1] at hl
        refine fun Z1 H1 s1 => ?_
        have sb := sc.trans (s1.toS sc.re)
        cases b with
        | false =>
          dsimp only
          rw [if_neg (by decide)]
          exact hl Z1 H1 σc sb
        | true =>
          dsimp only
          rw [if_pos rfl]
          refine ⟨fun σ' H' => ∃ Zc en, StpS X.K L.T Z H env σ Zc H' en σ' ∧ PostS L X.K Ew Hb D Z H env σ (whileLoop w (evT L c) (exSs L.ft L.gl L.fuel body) n en), fun σ' H' z => ⟨n, Nat.lt_succ_self _, z⟩, ?_⟩
          refine ⟨Hb, Z1, e2, a.step sb, ?_⟩
          dsimp only at hl
          cases eo : exSs L.ft L.gl L.fuel body e2 with
          | nx e2 =>
            rw [eo] at hl
            exact fun Z3 H3 σ3 s3 => ⟨Z3, forgE e2 w, (sb.trans s3).forg w, hl⟩
          | brk e2 =>
            rw [eo] at hl
            exact fun Z3 H3 σ3 s3 => hl Z3 H3 σ3 ((sb.trans s3).forg w)
          | ret r e2 =>
            rw [eo] at hl
            exact fun Z3 H3 σ3 s3 => hl Z3 H3 σ3 (sb.trans s3)
          | exc c s e2 =>
            rw [eo] at hl
            exact fun Z3 H3 σ3 s3 => hl Z3 H3 σ3 (sb.trans s3)
          | bad =>
            rw [eo] at hl
            exact hl
      | exc c s e2 =>
        rw [e1] at hl
        exact fun Z1 H1 s1 => hl Z1 H1 σc (sc.trans (s1.toS sc.re))
      | bad =>
        rw [e1] at hl
        exact hl
/-! ### targets of several names -/
theorem swapsSole_no {t e : Expr} {l : Nat} {env : Env} (h : isComp e = false) : swapsWithSole [t] e l env = pure false := swaps_no h
def notTup : Expr → Bool
  | .Tuple _ _ _ => false
  | _ => true
theorem swapped_none {t e : Expr} {env : Env} (h : notTup e = true) : swappedStores [t] e env = pure none := by
  cases t <;> cases e <;> first | rfl | cases h
theorem s_setP {p : Pat} {e : E} {tg e' : Expr} {pos : Pos} (st : Sto N sc X) (hg : chkP N sc p tg = true) (nc : isComp e' = false) (nt : notTup e' = true) (he : PE X e' (tE L X.K Ew e)) : PS X (.Assign [tg] e' pos) (tX L X.K Ew (exS L.ft L.gl L.fuel (.setP p e))) :=
  psImp (ps_asg he (pg_pat st hg) (swapsSole_no nc) (swapped_none nt) (by rw [each_cons (chkP_plain hg)]; rfl)) fun D σ H q => by
    obtain ⟨Hb, Z, env, a, h⟩ := q
    simp only [exS] at h
    refine ⟨Z, env, a.re, PostS.of a h fun r e1 Z1 H1 s1 h1 u g => ?_⟩
    obtain ⟨Z2, s2, du⟩ := s1.toV a.re g
    cases eb : bindP p r.d e1 with
    | none => rw [eb] at h1; exact h1.elim
    | some e2 =>
      rw [eb] at h1
      exact bind_ok p s2.re du eb fun σ2 r2 bn => h1 Z2 H1 σ2 ((s2.toS a.re).bnd r2 bn)
/-! ### items and methods -/
theorem c_item {i : Nat} {x : Str} {pos : Pos} (hN : X.N[i]? = some x) (hv : isVis X.env.scope x = true) (hn : okName x = true) : PE X (.Name x pos) (tVar i) := by
  unfold okName at hn
  simp only [Bool.and_eq_true, Bool.not_eq_true'] at hn
  exact pe_var hN (vis_of hv) hn.1 hn.2
theorem s_setI {i : Nat} {ix e : E} {x : Str} {ix' e' : Expr} {np sp pos : Pos} (hN : X.N[i]? = some x) (hv : isVis X.env.scope x = true) (hn : okName x = true) (nc : isComp e' = false) (nt : notTup e' = true) (sl : notSlice ix' = true) (hi : PE X ix' (tE L X.K Ew ix)) (he : PE X e' (tE L X.K Ew e)) :
    PS X (.Assign [.Subscript (.Name x np) ix' sp] e' pos) (tX L X.K Ew (exS L.ft L.gl L.fuel (.setI i ix e))) :=
  psImp (ps_asg he (pg_sub (c_item hN hv hn) hi set_list (by intro v; cases ix' <;> first | rfl | cases sl)) (swapsSole_no nc) (swapped_none nt)) fun D σ H q => by
    obtain ⟨Hb, Z, env, a, h⟩ := q
    simp only [exS] at h
    split at h
    · exact h.elim
    · rename_i hm
      cases em : rdM i env with
      | none => rw [em] at hm; exact absurd rfl hm
      | some xs0 =>
        obtain ⟨a0, us0, ea, hH, _⟩ := a.re.mAt em
        refine ⟨Z, env, a.re, PostS.of a h fun r e1 Z1 H1 s1 h1 u g => ?_⟩
        obtain ⟨Z2, s2, du⟩ := s1.toV a.re g
        have a2 := a.step (s2.toS a.re)
        refine ⟨.ref a0, sg_some ea, Z2, e1, s2.re, PostS.of a2 (h1.step (s2.toS a.re)) fun k e2 Z3 H3 s3 h3 v g3 => ?_⟩
        split at h3
        · rename_i kk xs ek ex
          obtain ⟨a1, us, ea1, hH1, da⟩ := s3.re.mAt ex
          rw [ea] at ea1
          cases ea1
          split at h3
          · rename_i j ej
            obtain rfl := dp_intv g3 ek
            refine ⟨a0, us, kk, j, rfl, rfl, hH1, by rw [dpa_len da]; exact ej, ?_⟩
            exact h3 Z3 _ σ ((s3.trans (Stp.wrM (us := us) s3.re ex ea (dpa_set (dp_mono s3.mv.ez _ du) j da))).toS a2.re)
          · exact h3.elim
        · exact h3.elim
theorem s_app {i : Nat} {e : E} {x : Str} {e' : Expr} {np ap cp pos : Pos} (hN : X.N[i]? = some x) (hv : isVis X.env.scope x = true) (hn : okName x = true) (hl : (ap.endLine == cp.line) = true) (ns : notStar e' = true) (he : PE X e' (tE L X.K Ew e)) :
    PS X (.Expr (.Call (.Attribute (.Name x np) "append" ap) [e'] [] cp) pos) (tX L X.K Ew (exS L.ft L.gl L.fuel (.app i e))) :=
  psImp (ps_expr (pe_bm PySem.F.plainAttrs_list PySem.F.slot_list_append PySem.F.type_list_append mt_append (c_item hN hv hn) (pa_cons he pa_nil (star_cons ns)) (base_of rfl) (few1 ns) hl (star_cons ns) rfl) rfl) fun D σ H q => by
    obtain ⟨Hb, Z, env, a, h⟩ := q
    simp only [exS] at h
    split at h
    · exact h.elim
    · rename_i hm
      cases em : rdM i env with
      | none => rw [em] at hm; exact absurd rfl hm
      | some xs0 =>
        obtain ⟨a0, us0, ea, hH, _⟩ := a.re.mAt em
        refine ⟨.ref a0, sg_some ea, tyl (.inl (.inl hH)), Z, env, a.re, PostS.of a h fun r e1 Z1 H1 s1 h1 u g => ?_⟩
        obtain ⟨Z2, s2, du⟩ := s1.toV a.re g
        split at h1
        · rename_i xs ex
          split at h1
          · rename_i hz
            obtain ⟨a1, us, ea1, hH1, da⟩ := s2.re.mAt ex
            rw [ea] at ea1
            cases ea1
            have := szOk_of hz
            have ld := dpa_len da
            exact ⟨a0, us, u, rfl, rfl, hH1, by omega, h1 Z2 _ σ ((s2.trans (Stp.wrM (us := us) s2.re ex ea (dpa_app da (.cons du .nil)))).toS a.re)⟩
          · exact h1.elim
        · exact h1.elim
theorem s_aug {i : Nat} {e : E} {x : Str} {e' : Expr} {np pos : Pos} (st : Sto N sc X) (hN : X.N[i]? = some x) (hl : isLoc sc x = true) (he : PE X e' (tE L X.K Ew e)) : PS X (.AugAssign (.Name x np) .Add e' pos) (tX L X.K Ew (exS L.ft L.gl L.fuel (.aug i e))) := by
  obtain ⟨l1, l2⟩ := st.2.2.2 x hl
  refine psImp (ps_aug st.2.1 hN l1 he ip_add l2) fun D σ H q => ?_
  obtain ⟨Hb, Z, env, a, h⟩ := q
  simp only [exS] at h
  have sl := a.re.sl i
  split at h
  · rename_i d ed
    rw [ed] at sl
    obtain ⟨v, ev, dv⟩ := sl
    refine ⟨v, sg_some ev, Z, env, a.re, PostS.of a h fun r e1 Z1 H1 s1 h1 u g => ?_⟩
    split at h1
    · rename_i n m er
      obtain rfl := dp_int dv
      obtain rfl := dp_intv g er
      refine ⟨n, m, rfl, rfl, ?_⟩
      unfold stV at h1
      by_cases hf : free i e1 = true
      · rw [if_pos hf] at h1
        exact h1 Z1 H1 _ ((s1.toS a.re).val hf (.int _))
      · rw [if_neg hf] at h1; exact h1.elim
    · exact h1.elim
  · exact h.elim
/-- xs[i], read for a store -/
def rGetL (K : PySem.W.Frag) : V → V → Hp → VK → Prop := fun x y H Q => ∃ p xs i v, x = .ref p ∧ y = .int i ∧ SqL K H p xs ∧ atI xs i = some v ∧ Q v H
theorem pget_list : PGet X (rGetL X.K) := by
  intro pins s σ H o i ov iv Q I ro ri h
  obtain ⟨p, xs, n, z, rfl, rfl, hq, he, q⟩ := h
  cases ro
  obtain ⟨t, rfl⟩ := ri
  obtain ⟨its, r, pl, hz⟩ := I.list hq
  obtain ⟨j, h1, h2, h3, h4, h5⟩ := atI_get he
  obtain ⟨w, ew, rw'⟩ := r.get h2
  have hl := r.length
  have hn := line63
  have fin : EP X pins σ Q w s := ⟨z, H, I, rw', q⟩
  by_cases h0 : 0 ≤ n
  · have hj : n.toNat = j := by
      rw [seqIndex_of h0 h5] at h1
      exact Option.some.inj h1
    exact wpAny_getItem_list pl.isList h0 (by omega) (by rw [hj]; simpa using ew) fin
  · have hj : (n + (its.toArray.size : Int)).toNat = j := by
      rw [seqIndex_neg (by omega) h4] at h1
      rw [List.size_toArray, ← hl]
      exact Option.some.inj h1
    exact wpAny_getItem_list_neg pl.isList (by omega) (by rw [List.size_toArray] <;> omega) (by omega) (by rw [hj]; simpa using ew) fin
theorem s_augI {i : Nat} {ix e : E} {x : Str} {ix' e' : Expr} {np sp pos : Pos} (hN : X.N[i]? = some x) (hv : isVis X.env.scope x = true) (hn : okName x = true) (sl : notSlice ix' = true) (hi : PE X ix' (tE L X.K Ew ix)) (he : PE X e' (tE L X.K Ew e)) :
    PS X (.AugAssign (.Subscript (.Name x np) ix' sp) .Add e' pos) (tX L X.K Ew (exS L.ft L.gl L.fuel (.augI i ix e))) :=
  psImp (ps_augS (c_item hN hv hn) hi pget_list he ip_add set_list (by intros; cases ix' <;> first | rfl | cases sl)) fun D σ H q => by
    obtain ⟨Hb, Z, env, a, h⟩ := q
    simp only [exS] at h
    split at h
    · exact h.elim
    · rename_i hm
      cases em : rdM i env with
      | none => rw [em] at hm; exact absurd rfl hm
      | some xs0 =>
        obtain ⟨a0, us0, ea, hH, _⟩ := a.re.mAt em
        refine ⟨.ref a0, sg_some ea, Z, env, a.re, PostS.of a h fun k e1 Z1 H1 s1 h1 v g => ?_⟩
        split at h1
        · rename_i kk xs ek ex
          obtain ⟨a1, us, ea1, hH1, da⟩ := s1.re.mAt ex
          rw [ea] at ea1
          cases ea1
          split at h1
          · rename_i j ej
            split at h1
            · rename_i n en
              obtain rfl := dp_intv g ek
              obtain ⟨w', ew, dw⟩ := dpa_at j da en
              obtain rfl := dp_int dw
              refine ⟨a0, us, kk, .int n, rfl, rfl, .inl (.inl hH1), by unfold L2.atI; rw [dpa_len da, ej]; exact ew, ?_⟩
              have a1 := a.step (s1.toS a.re)
              refine ⟨Z1, e1, s1.re, PostS.of a1 (h1.step (s1.toS a.re)) fun r e2 Z2 H2 s2 h2 u g2 => ?_⟩
              split at h2
              · rename_i m ys er ey
                obtain ⟨a2, vs, ea2, hH2, da2⟩ := s2.re.mAt ey
                rw [ea] at ea2
                cases ea2
                split at h2
                · rename_i j2 ej2
                  obtain rfl := dp_intv g2 er
                  refine ⟨n, m, rfl, rfl, a0, vs, kk, j2, rfl, rfl, hH2, by rw [dpa_len da2]; exact ej2, ?_⟩
                  exact h2 Z2 _ σ ((s2.trans (Stp.wrM (us := vs) s2.re ey ea (dpa_set (.int _) j2 da2))).toS a1.re)
                · exact h2.elim
              · exact h2.elim
            · exact h1.elim
          · exact h1.elim
        · exact h1.elim
end
end PL

/-! part PLStm3 -/
set_option Elab.async false
set_option linter.all false
set_option autoImplicit false
set_option maxRecDepth 100000
set_option maxHeartbeats 4000000
/-! a, b = e, f -/
namespace PL
open PySem PySem.Spec PyProof.Rows L2

def swN (sc : Scope) (ts vs : List Expr) : Option (Option (List Str)) :=
  if !(ts.length == 2 || ts.length == 3) || vs.length != ts.length then some none else
  if vs.any (fun | .Starred .. => true | _ => false) then some none else
  if (ts.filterMap fun | .Name id pos => (if sc.names.lookup id == some .local && pos.line == (ts.head?.map (·.pos.line)).getD 0 then some id else none) | _ => none).length != ts.length || (ts.filterMap fun | .Name id pos => (if sc.names.lookup id == some .local && pos.line == (ts.head?.map (·.pos.line)).getD 0 then some id else none) | _ => none).eraseDups.length != (ts.filterMap fun | .Name id pos => (if sc.names.lookup id == some .local && pos.line == (ts.head?.map (·.pos.line)).getD 0 then some id else none) | _ => none).length then some none else
  if vs.all (foldedForSure 8) then some none else
  if vs.all (constantsAlone 8) then none else some (some (ts.filterMap fun | .Name id pos => (if sc.names.lookup id == some .local && pos.line == (ts.head?.map (·.pos.line)).getD 0 then some id else none) | _ => none))
theorem swapped_of {env : Env} {ts vs : List Expr} {k k2 : Nat} {p p2 : Pos} {r : Option (List Str)} (hk : env.scope.kind = .function) (h : swN env.scope ts vs = some r) : swappedStores [.Tuple ts k p] (.Tuple vs k2 p2) env = pure r := by
  have hb : env.blockKind = .function := by unfold Env.blockKind; rw [hk]; rfl
  unfold swappedStores
  unfold swN at h
  dsimp only
  have hb2 : (env.blockKind != .function) = false := by rw [hb]; rfl
  rw [hb2, Bool.or_false]
  split at h
  · rename_i c
    cases h
    rw [if_pos c]
  · rename_i c
    rw [if_neg c]
    split at h
    · rename_i c2
      cases h
      exact if_pos c2
    · rename_i c2
      refine (if_neg c2).trans ?_
      split at h
      · rename_i c3
        cases h
        exact if_pos c3
      · rename_i c3
        refine (if_neg c3).trans ?_
        split at h
        · rename_i c4
          cases h
          exact if_pos c4
        · rename_i c4
          refine (if_neg c4).trans ?_
          split at h
          · cases h
          · rename_i c5
            cases h
            exact if_neg c5
end PL

/-! part PLStm4 -/
set_option Elab.async false
set_option linter.all false
set_option autoImplicit false
set_option maxRecDepth 100000
set_option maxHeartbeats 4000000
namespace PL
open PySem PySem.Spec PyProof.Rows L2
/-- no new list among these lies at p -/
def NoNew (p : Addr) : List RV → List V → Prop
  | .l _ :: rs, u :: us => u ≠ .ref p ∧ NoNew p rs us
  | .v _ :: rs, _ :: us => NoNew p rs us
  | _, _ => True
def GotL (K : PySem.W.Frag) (H Z H1 : Hp) : List RV → List V → Prop
  | [], [] => True
  | .v d :: rs, u :: us => Dp K Z u d ∧ GotL K H Z H1 rs us
  | .l xs :: rs, u :: us => (∃ p ws, u = .ref p ∧ H p = none ∧ H1 p = some (.lst ws) ∧ Z p = none ∧ DpAll K Z ws xs ∧ NoNew p rs us) ∧ GotL K H Z H1 rs us
  | _, _ => False
def tRs (L : Lk) (K : PySem.W.Frag) (Ew : XK) (ms : List Bool) (es : Es) : TA := fun σ H Q => ∃ Z env, RE K L.T Z H env σ ∧ Post L K Ew σ Z H env (fun rs _ Z1 H1 => ∀ us, GotL K H Z1 H1 rs us → Q us H1) (evRs L.ft L.gl ms es env)
section
variable {L : Lk} {CX : CXT} {k : Nat} {Ew : XK} {N : List Str} {sc : Scope} {X : Cx} {K : PySem.W.Frag} {T : Tb} {σ σ1 σ2 : St} {Hb Z H Z0 H0 Z1 H1 Z2 H2 Z3 H3 Z4 H4 : Hp} {env env1 env2 e0 e1 e2 e3 : En} {D D' : Ends}
theorem gotL_base (hd : ∀ b, H b ≠ none → H0 b ≠ none) : ∀ {rs : List RV} {us : List V}, GotL K H0 Z H1 rs us → GotL K H Z H1 rs us
  | [], [], h => trivial
  | .v d :: rs, u :: us, h => ⟨h.1, gotL_base hd h.2⟩
  | .l xs :: rs, u :: us, ⟨⟨p, ws, e, h0, h⟩, h2⟩ => ⟨⟨p, ws, e, free_of hd h0, h⟩, gotL_base hd h2⟩
  | [], _ :: _, h => h.elim
  | .v _ :: _, [], h => h.elim
  | .l _ :: _, [], h => h.elim
theorem gotL_no {p : Addr} (hp : H0 p ≠ none) : ∀ {rs : List RV} {us : List V}, GotL K H0 Z H1 rs us → NoNew p rs us
  | [], [], h => trivial
  | .v d :: rs, u :: us, h => gotL_no (rs := rs) (us := us) hp h.2
  | .l xs :: rs, u :: us, ⟨⟨q, ws, e, h0, h⟩, h2⟩ => ⟨fun e2 => by
      rw [e] at e2
      cases e2
      exact hp h0, gotL_no hp h2⟩
  | [], _ :: _, h => h.elim
  | .v _ :: _, [], h => h.elim
  | .l _ :: _, [], h => h.elim
theorem r_nil {ms : List Bool} : PA X [] (tRs L X.K Ew ms .nil) := paImp pa_nil fun σ H Q q => by
  obtain ⟨Z, env, r0, h⟩ := q
  cases ms <;> (simp only [evRs] at h; exact h Z H (Stp.refl r0) [] trivial)
theorem r_cons {m : Bool} {ms : List Bool} {e : E} {es : Es} {e' : Expr} {es' : List Expr} (ns : notStar e' = true) (he : PE X e' (tE L X.K Ew e)) (hs : PA X es' (tRs L X.K Ew ms es)) : PA X (e' :: es') (tRs L X.K Ew (m :: ms) (.cons e es)) :=
  paImp (pa_cons he hs (star_cons ns)) fun σ H Q q => by
    obtain ⟨Z, env, r0, h⟩ := q
    simp only [evRs] at h
    refine ⟨Z, env, r0, h.bind fun r e1 Z1 H1 s1 h1 u g => ?_⟩
    have val : ∀ {d : PyData}, (∃ Z2, Stp X.K L.T σ Z H env Z2 H1 e1 ∧ Dp X.K Z2 u d) → Post L X.K Ew σ Z H env (fun rs _ Z1 H1 => ∀ us, GotL X.K H Z1 H1 rs us → Q us H1) ((evRs L.ft L.gl ms es e1).bind fun ds e2 => .ok (RV.v d :: ds) e2) → tRs L X.K Ew ms es σ H1 fun xs H2 => Q (u :: xs) H2 := by
      rintro d ⟨Z2, s2, du⟩ h1
      refine ⟨Z2, e1, s2.re, (h1.step s2).bind fun ds e2 Z3 H3 s3 h3 us gs => ?_⟩
      exact h3 Z3 H3 s3 (u :: us) ⟨dp_mono s3.mv.ez _ du, gotL_base s2.mv.dm gs⟩
    cases r with
    | v d =>
      have e : (if m = true then RV.v d else RV.v (RV.v d).d) = RV.v d := by cases m <;> rfl
      rw [e] at h1
      exact val ⟨Z1, s1, g⟩ h1
    | l xs =>
      cases m with
      | false => exact val (s1.toV r0 g) h1
      | true =>
        obtain ⟨p, ws, rfl, h0, hp, z1, da⟩ := g
        refine ⟨Z1, e1, s1.re, (h1.step s1).bind fun ds e2 Z3 H3 s3 h3 us gs => ?_⟩
        have gl := Got.later (r := .l xs) (u := .ref p) s3 r0 s1 ⟨p, ws, rfl, h0, hp, z1, da⟩
        obtain ⟨p', ws', e', h0', hp', z1', da'⟩ := gl
        cases e'
        exact h3 Z3 H3 s3 (.ref p :: us) ⟨⟨p, ws', rfl, h0, hp', z1', da', gotL_no (by rw [hp]; simp) gs⟩, gotL_base s1.mv.dm gs⟩
def setAll : St → List Nat → List V → St
  | σ, i :: is, u :: us => setAll (σ.set i (some u)) is us
  | σ, _, _ => σ
def NewAll (env : En) (σ : St) : List RV → List V → Prop
  | .l _ :: rs, u :: us => (∀ p, u = .ref p → ¬ LsAt env σ p) ∧ NewAll env σ rs us
  | .v _ :: rs, _ :: us => NewAll env σ rs us
  | _, _ => True
theorem newAll_of : ∀ {rs : List RV} {us : List V}, (∀ p, H p = none → ¬ LsAt e1 σ1 p) → GotL K H Z H1 rs us → NewAll e1 σ1 rs us
  | [], [], _, h => trivial
  | .v d :: rs, u :: us, k, h => newAll_of (rs := rs) (us := us) k h.2
  | .l xs :: rs, u :: us, k, ⟨⟨p, ws, e, h0, h⟩, h2⟩ => ⟨fun q eq => by
      rw [e] at eq
      cases eq
      exact k p h0, newAll_of k h2⟩
  | [], _ :: _, _, h => h.elim
  | .v _ :: _, [], _, h => h.elim
  | .l _ :: _, [], _, h => h.elim
theorem newAll_own {p : Addr} {i : Nat} {xs : List PyData} (hi : i < e1.length) : ∀ {rs : List RV} {us : List V}, NewAll e1 σ1 rs us → NoNew p rs us → NewAll (e1.set i (.own xs)) (σ1.set i (some (.ref p))) rs us
  | .l _ :: rs, u :: us, h, n => ⟨fun q eq ⟨j, hj, ej⟩ => by
      by_cases c : j = i
      · subst c
        have hj2 : j < σ1.length := by
          by_cases z : j < σ1.length
          · exact z
          · exfalso
            unfold sg at ej
            rw [List.getD_eq_getElem?_getD, List.getElem?_eq_none (by rw [List.length_set]; omega)] at ej
            cases ej
        rw [sg_set_same hj2] at ej
        cases ej
        exact n.1 eq
      · rw [gt_set_ne (Ne.symm c)] at hj
        rw [sg_set_ne (Ne.symm c)] at ej
        exact h.1 q eq ⟨j, hj, ej⟩, newAll_own hi h.2 n.2⟩
  | .v _ :: rs, _ :: us, h, n => newAll_own (rs := rs) (us := us) hi h n
  | [], _, _, _ => trivial
  | .v _ :: _, [], _, _ => trivial
  | .l _ :: _, [], _, _ => trivial
theorem newAll_val {v : V} {i : Nat} {d : PyData} (hi : i < e1.length) : ∀ {rs : List RV} {us : List V}, NewAll e1 σ1 rs us → NewAll (e1.set i (.val d)) (σ1.set i (some v)) rs us
  | .l _ :: rs, u :: us, h => ⟨fun q eq ⟨j, hj, ej⟩ => by
      by_cases c : j = i
      · subst c
        rw [gt_set_same hi] at hj
        cases hj
      · rw [gt_set_ne (Ne.symm c)] at hj
        rw [sg_set_ne (Ne.symm c)] at ej
        exact h.1 q eq ⟨j, hj, ej⟩, newAll_val hi h.2⟩
  | .v _ :: rs, _ :: us, h => newAll_val (rs := rs) (us := us) hi h
  | [], _, _ => trivial
  | .v _ :: _, [], _ => trivial
  | .l _ :: _, [], _ => trivial
theorem setRs_ok : ∀ {ms : List (Bool × Nat)} {rs : List RV} {us : List V} {e1 e2 : En} {σ1 : St}, StpS K T Z H env σ Z1 H1 e1 σ1 → GotL K H Z1 H1 rs us → NewAll e1 σ1 rs us → (∀ q ∈ ms.zip rs, q.1.1 = false → ∃ d, q.2 = .v d) → setRs ms rs e1 = some e2 →
    StpS K T Z H env σ Z1 H1 e2 (setAll σ1 (ms.map (·.2)) us) ∧ us.length = ms.length
  | [], [], us, e1, e2, σ1, s, g, n, hm, h => by
    cases h
    cases us with
    | nil => exact ⟨s, rfl⟩
    | cons u us => exact g.elim
  | (m, i) :: ms, .v d :: rs, u :: us, e1, e2, σ1, s, g, n, hm, h => by
    obtain ⟨e3, h1, h2⟩ := bindSome (show (setR m i (.v d) e1).bind (setRs ms rs) = some e2 from h)
    unfold setR at h1
    split at h1
    · rename_i hf
      have e : e3 = e1.set i (.val d) := by
        cases m <;> (cases h1; rfl)
      subst e
      have := setRs_ok (s.val hf g.1) g.2 (newAll_val (free_slot hf).1 n) (fun q hq => hm q (List.mem_cons_of_mem _ hq)) h2
      exact ⟨this.1, by rw [List.length_cons, List.length_cons, this.2]⟩
    · cases h1
  | (m, i) :: ms, .l xs :: rs, u :: us, e1, e2, σ1, s, g, n, hm, h => by
    obtain ⟨e3, h1, h2⟩ := bindSome (show (setR m i (.l xs) e1).bind (setRs ms rs) = some e2 from h)
    cases m with
    | false =>
      obtain ⟨d, e⟩ := hm ((false, i), .l xs) (by simp) rfl
      cases e
    | true =>
      unfold setR at h1
      split at h1
      · rename_i hf
        cases h1
        obtain ⟨⟨p, ws, rfl, h0, hp, z1, da, nn⟩, g2⟩ := g
        have := setRs_ok (s.own hf h0 hp z1 da (n.1 p rfl)) g2 (newAll_own (free_slot hf).1 n.2 nn) (fun q hq => hm q (List.mem_cons_of_mem _ hq)) h2
        exact ⟨this.1, by rw [List.length_cons, List.length_cons, this.2]⟩
      · cases h1
  | [], _ :: _, _, _, _, _, _, _, _, _, h => by cases h
  | (_, _) :: _, [], _, _, _, _, _, _, _, _, h => by cases h
  | _ :: _, .v _ :: _, [], _, _, _, _, g, _, _, _ => g.elim
  | _ :: _, .l _ :: _, [], _, _, _, _, g, _, _, _ => g.elim
theorem evRs_mat {ft : FT} {gl : List PyData} : ∀ {ms : List (Bool × Nat)} {es : Es} {env e1 : En} {rs : List RV}, evRs ft gl (ms.map (·.1)) es env = .ok rs e1 → ∀ q ∈ ms.zip rs, q.1.1 = false → ∃ d, q.2 = .v d
  | [], es, env, e1, rs, h, q, hq, _ => by simp at hq
  | (m, i) :: ms, .nil, env, e1, rs, h, q, hq, _ => by
    simp only [List.map_cons, evRs] at h
    cases h
    simp at hq
  | (m, i) :: ms, .cons e es, env, e1, rs, h, q, hq, hf => by
    simp only [List.map_cons, evRs] at h
    cases ea : evE ft gl e env with
    | ok r e2 =>
      rw [ea] at h
      dsimp only [Out.bind] at h
      cases eb : evRs ft gl (ms.map (·.1)) es e2 with
      | ok ds e3 =>
        rw [eb] at h
        cases h
        rw [List.zip_cons_cons] at hq
        rcases List.mem_cons.mp hq with z | z
        · subst z
          have hf : m = false := hf
          subst hf
          exact ⟨_, rfl⟩
        · exact evRs_mat eb q z hf
      | exc c s e3 => rw [eb] at h; cases h
      | bad => rw [eb] at h; cases h
    | exc c s e3 => rw [ea] at h; cases h
    | bad => rw [ea] at h; cases h
/-- what follows the evaluation of the right sides -/
theorem setT_post {ms : List (Bool × Nat)} {es : Es} (a : At K L.T Hb Z H env σ) (h : PostS L K Ew Hb D Z H env σ (.of (evRs L.ft L.gl (ms.map (·.1)) es env) fun rs e1 => .opt (setRs ms rs e1))) {Q : List V → Hp → Prop}
    (k : ∀ us Z1 H1 e2 σ2, us.length = ms.length → StpS K L.T Z H env σ Z1 H1 e2 σ2 → σ2 = setAll σ (ms.map (·.2)) us → (∀ Z3 H3 e3 σ3, StpS K L.T Z1 H1 e2 σ2 Z3 H3 e3 σ3 → e3 = e2 → D.nx σ3 H3) → Q us H1) : tRs L K Ew (ms.map (·.1)) es σ H Q := by
  refine ⟨Z, env, a.re, ?_⟩
  cases e : evRs L.ft L.gl (ms.map (·.1)) es env with
  | ok rs e1 =>
    rw [e] at h
    have h : PostS L K Ew Hb D Z H env σ (.opt (setRs ms rs e1)) := h
    intro Z1 H1 s1 us g
    cases e2 : setRs ms rs e1 with
    | none => rw [e2] at h; exact h.elim
    | some e3 =>
      rw [e2] at h
      obtain ⟨st, ln⟩ := setRs_ok (s1.toS a.re) g (newAll_of (fun p hp => new_ls a.re s1 hp) g) (evRs_mat e) e2
      exact k us Z1 H1 e3 _ ln st rfl fun Z3 H3 e4 σ3 s3 ee => by
        subst ee
        exact h Z3 H3 σ3 (st.trans s3)
  | exc c s e1 =>
    rw [e] at h
    exact fun Z1 H1 s1 => h Z1 H1 σ (s1.toS a.re)
  | bad =>
    rw [e] at h
    exact h
theorem s_par2 {m1 m2 : Bool} {i j : Nat} {x y : Str} {es : Es} {a b : Expr} {px py pt pos : Pos} {kt k2 : Nat} {pt2 : Pos} (st : Sto N sc X) (hk : X.env.scope.kind = .function) (hN : X.N[i]? = some x) (hM : X.N[j]? = some y) (hij : i ≠ j)
    (hx : X.env.scope.names.lookup x = some .local) (hy : X.env.scope.names.lookup y = some .local) (hw : swN X.env.scope [.Name x px, .Name y py] [a, b] = some (some [x, y])) (ha : PA X [a, b] (tRs L X.K Ew [m1, m2] es)) :
    PS X (.Assign [.Tuple [.Name x px, .Name y py] kt pt] (.Tuple [a, b] k2 pt2) pos) (tX L X.K Ew (exS L.ft L.gl L.fuel (.setT [(m1, i), (m2, j)] es))) :=
  psImp (ps_par st.2.2.1 st.2.1 hN hM hij hx hy ha (swapped_of hk hw) rfl) fun D σ H q => by
    obtain ⟨Hb, Z, env, a, h⟩ := q
    simp only [exS] at h
    refine setT_post (ms := [(m1, i), (m2, j)]) a h fun us Z1 H1 e2 σ2 hl s hσ hn => ?_
    match us, hl with
    | [u, v], _ => exact ⟨u, v, rfl, by subst hσ; exact hn Z1 H1 e2 _ (StpS.refl s.re) rfl⟩
theorem s_par3 {m1 m2 m3 : Bool} {i j l : Nat} {x y z : Str} {es : Es} {a b c : Expr} {px py pz pt pos : Pos} {kt k2 : Nat} {pt2 : Pos} (st : Sto N sc X) (hk : X.env.scope.kind = .function) (hN : X.N[i]? = some x) (hM : X.N[j]? = some y) (hO : X.N[l]? = some z) (hij : i ≠ j) (hil : i ≠ l) (hjl : j ≠ l)
    (hx : X.env.scope.names.lookup x = some .local) (hy : X.env.scope.names.lookup y = some .local) (hz : X.env.scope.names.lookup z = some .local) (hw : swN X.env.scope [.Name x px, .Name y py, .Name z pz] [a, b, c] = some (some [x, y, z])) (ha : PA X [a, b, c] (tRs L X.K Ew [m1, m2, m3] es)) :
    PS X (.Assign [.Tuple [.Name x px, .Name y py, .Name z pz] kt pt] (.Tuple [a, b, c] k2 pt2) pos) (tX L X.K Ew (exS L.ft L.gl L.fuel (.setT [(m1, i), (m2, j), (m3, l)] es))) :=
  psImp (ps_par3 st.2.2.1 st.2.1 hN hM hO hij hil hjl hx hy hz ha (swapped_of hk hw) rfl) fun D σ H q => by
    obtain ⟨Hb, Z, env, a, h⟩ := q
    simp only [exS] at h
    refine setT_post (ms := [(m1, i), (m2, j), (m3, l)]) a h fun us Z1 H1 e2 σ2 hl s hσ hn => ?_
    match us, hl with
    | [u, v, w], _ => exact ⟨u, v, w, rfl, by subst hσ; exact hn Z1 H1 e2 _ (StpS.refl s.re) rfl⟩
def gNames : List Nat → TGs
  | [] => gNil
  | i :: is => gCons (gName i) (gNames is)
theorem gNames_ok : ∀ {is : List Nat} {us : List V} {σ : St} {Q : St → Hp → Prop}, us.length = is.length → Q (setAll σ is us) H → gNames is us σ H Q
  | [], [], _, _, _, h => ⟨rfl, h⟩
  | i :: is, u :: us, _, _, hl, h => ⟨u, us, rfl, gNames_ok (by simpa using hl) h⟩
  | [], _ :: _, _, _, hl, _ => by simp at hl
  | _ :: _, [], _, _, hl, _ => by simp at hl
def chkNames (N : List Str) (st : Scope) : List Nat → List Expr → Bool
  | [], [] => true
  | i :: is, .Name x _ :: es => decide (N[i]? = some x) && isLoc st x && chkNames N st is es
  | _, _ => false
theorem pgs_names {st : Scope} (s : Sto N st X) : ∀ {is : List Nat} {es : List Expr}, chkNames N st is es = true → PGs X es (gNames is) ∧ (assignEach es X.env).length = is.length ∧ (assignEach es X.env).findIdx? (·.1) = none
  | [], [], _ => ⟨pgs_nil, rfl, rfl⟩
  | i :: is, e :: es, h => by
    cases e with
    | Name x pos =>
      simp only [chkNames, Bool.and_eq_true, decide_eq_true_eq] at h
      obtain ⟨h1, h2⟩ := s.2.2.2 x h.1.2
      obtain ⟨r1, r2, r3⟩ := pgs_names s h.2
      refine ⟨pgs_cons (pg_name s.2.1 (by rw [s.1]; exact h.1.1) h1 h2) r1 (by rw [each_cons rfl]; rfl), ?_, ?_⟩
      · rw [each_cons rfl, List.length_cons, r2, List.length_cons]
      · rw [each_cons rfl, List.findIdx?_cons, r3]
        rfl
    | _ => cases h
  | [], _ :: _, h => by cases h
  | _ :: _, [], h => by cases h
theorem s_setT {ms : List (Bool × Nat)} {es : Es} {ts vs : List Expr} {k2 kt : Nat} {pt pt2 pos : Pos} (st : Sto N sc X) (hk : X.env.scope.kind = .function) (hn : chkNames N sc (ms.map (·.2)) ts = true) (hz : ms.length ≤ 1000) (hw : swN X.env.scope ts vs = some none) (ha : PA X vs (tRs L X.K Ew (ms.map (·.1)) es)) :
    PS X (.Assign [.Tuple ts kt pt] (.Tuple vs k2 pt2) pos) (tX L X.K Ew (exS L.ft L.gl L.fuel (.setT ms es))) := by
  obtain ⟨r1, r2, r3⟩ := pgs_names st hn
  refine psImp (ps_asg (pe_tup ha) (pg_tup st.2.2.1 r1 r2 r3) (swapsSole_no rfl) (swapped_of hk hw) rfl) fun D σ H q => ?_
  obtain ⟨Hb, Z, env, a, h⟩ := q
  simp only [exS] at h
  refine setT_post a h fun us Z1 H1 e2 σ2 hl s hσ hnx => ⟨by rw [sizeLine_eq]; omega, fun p hp => ⟨p, us, rfl, .inl (.inl upd_same), by rw [hl, List.length_map], gNames_ok (by rw [hl, List.length_map]) ?_⟩⟩
  subst hσ
  exact hnx Z1 _ e2 _ ((Stp.new s.re hp).toS s.re) rfl
end
end PL

/-! part PLMore -/
set_option Elab.async false
set_option linter.all false
set_option autoImplicit false
set_option maxRecDepth 100000
set_option maxHeartbeats 4000000
/-! len(set(t)); list(range(..)) -/
namespace PL
open PySem PySem.Spec PyProof.Rows L2
theorem mem_uniq {k : Int} : ∀ {ns : List Int}, k ∈ uniq ns ↔ k ∈ ns
  | [] => by simp [uniq]
  | x :: xs => by
    unfold uniq
    by_cases h : x ∈ xs
    · rw [if_pos h, mem_uniq]
      constructor
      · exact fun z => List.mem_cons_of_mem _ z
      · intro z
        rcases List.mem_cons.mp z with e | e
        · rw [e]; exact h
        · exact e
    · rw [if_neg h]
      simp [mem_uniq]
theorem nodup_uniq : ∀ {ns : List Int}, (uniq ns).Nodup
  | [] => by simp [uniq]
  | x :: xs => by
    unfold uniq
    by_cases h : x ∈ xs
    · rw [if_pos h]; exact nodup_uniq
    · rw [if_neg h]
      exact List.nodup_cons.mpr ⟨fun z => h (mem_uniq.mp z), nodup_uniq⟩
section
variable {L : Lk} {CX : CXT} {k : Nat} {Ew : XK} {N : List Str} {sc : Scope} {X : Cx} {K : PySem.W.Frag}
theorem c_lenSet (c : Cq L CX k Ew N sc X) {a : O} {a' : Expr} {p p2 q pos : Pos} (g : isGl sc "len" = true) (g2 : isGl sc "set" = true) (ns : notStar a' = true) (ha : PE X a' (tO L X.K Ew a)) :
    PE X (.Call (.Name "len" p) [.Call (.Name "set" p2) [a'] [] q] [] pos) (tE L X.K Ew (.lenSet a)) := by
  refine ⟨fun pins s σ H Q I h => ?_⟩
  have h' : tO L X.K Ew a σ H fun u H1 => ∃ Z d r, Ex Z H1 ∧ Sh X.K Z H1 u d ∧ lenSetD d = some r ∧ OpPost X.K Z H1 Q r := by
    obtain ⟨Z, env, r0, h⟩ := h
    simp only [evE] at h
    refine ⟨Z, env, r0, h.bind fun x e1 Z1 H1 s1 h1 u g => ?_⟩
    obtain ⟨Z2, s2, hd⟩ := Hold.of r0 s1 g
    obtain ⟨r, e, hp⟩ := h1.lift
    obtain ⟨d, e2, e3⟩ := bindSome e
    exact ⟨Z2, d, r, s2.re.ex, hd.sh s2.re e2, e3, opp_of' s2.mv.dm s2 hp⟩
  refine Call_ (ld_blt I (gl_of (by rw [c.sc]; exact g)) (c.blt _ (blt_in (by decide))) boot_len ?_)
  refine PyProof.Rows.callWith_builtin1 (PyProof.Rows.args_cons ?_ rfl) rfl rfl
  refine Call_ (ld_blt I (gl_of (by rw [c.sc]; exact g2)) (c.blt _ (blt_in (by decide))) boot_set ?_)
  refine PyProof.Rows.callWith_type1 (PyProof.Rows.args_cons (thn (ha.run pins s σ H _ I h') fun v s1 ⟨x, H1, I1, r1, q1⟩ => PyProof.Rows.args_nil ?_) (star_cons ns)) (star_cons ns) rfl
  obtain ⟨Z, d, r, ez, sh, e, q1⟩ := q1
  cases d with
  | tuple xs =>
    have e' : (if xs.length ≤ 1000 then (intsOf xs).map fun ns => RV.v (.int ((uniq ns).length : Nat)) else none) = some r := e
    split at e'
    · rename_i hl
      obtain ⟨ns', en, rfl⟩ := optmap e'
      obtain ⟨p0, us, its, as, rfl, rfl, ht, rv, da, _, hz, hz2⟩ := sh_tup I1 ez sh r1
      obtain ⟨e1, e2⟩ := dpa_ints da en
      subst e1
      have hlen : ns'.length = xs.length := by rw [e2, List.length_map]
      refine call_set_tupI (w := X.w) (P := X.prog) ns' (I1.ok.hd c.calm) ht (ints_of_vals rv) (by unfold scanBound; omega) fun h' tk cc R1 hcn kp => ?_
      refine PyProof.Rows.args_nil ?_
      obtain ⟨o, es, ep, t, ho, hex, hdt, gg, nd, hm2, hb, hf, hn, hr, hl2⟩ := R1
      have I2 : Inv X pins σ H1 { s1 with heap := h', toks := tk } := I1.kept kp
      have sz : es.size = (uniq ns').length := by
        have perm : (es.toList.map keyOf).Perm (uniq ns') := (List.perm_ext_iff_of_nodup nd nodup_uniq).mpr fun j => by
          rw [← hm2 j, mem_uniq, decide_eq_true_eq]
        have := perm.length_eq
        rw [List.length_map, Array.length_toList] at this
        exact this
      have : es.size ≤ ns'.length := by omega
      exact call_len_set ho hex hdt hf (by omega) ⟨.int (uniq ns').length, H1, I2.tok _, ⟨_, by rw [sz]⟩, opp_v q1 (.int _)⟩
    · cases e'
  | _ => cases e
theorem dpa_rng {Z : Hp} (a b : Int) : DpAll K Z (rgV a b) (rngD a (b - a).toNat) := by
  unfold rgV rngD
  generalize (b - a).toNat = n
  have : ∀ l : List Nat, DpAll K Z (l.map fun i => V.int (a + (i : Nat))) (l.map fun i => PyData.int (a + (i : Nat))) := fun l => by
    induction l with
    | nil => exact .nil
    | cons x xs ih => exact .cons (.int _) ih
  exact this _
theorem c_list1 (c : Cq L CX k Ew N sc X) {a : E} {a' : Expr} {p p2 pos pos2 : Pos} (g : isGl sc "list" = true) (g2 : isGl sc "range" = true) (ns : notStar a' = true) (ha : PE X a' (tE L X.K Ew a)) :
    PE X (.Call (.Name "list" p) [.Call (.Name "range" p2) [a'] [] pos2] [] pos) (tE L X.K Ew (.listR (.r1 a))) :=
  peImp (pe_listRg c.calm (gl_of (by rw [c.sc]; exact g)) (c.blt _ (blt_in (by decide))) (prg_1 (gl_of (by rw [c.sc]; exact g2)) (c.blt _ (blt_in (by decide))) ha (star_cons ns))) fun σ H Q q => by
    obtain ⟨Z, env, r0, h⟩ := q
    simp only [evE, evIt] at h
    refine ⟨Z, env, r0, ?_⟩
    have h2 : Post L X.K Ew σ Z H env (PG1 X.K H Q) ((evE L.ft L.gl a env).bind fun x e1 => (Out.lift (rng1 x.d) e1).bind fun xs e1 => if szOk xs.length = true then .ok (.l xs) e1 else .bad) := by
      cases e : evE L.ft L.gl a env with
      | ok x e1 => rw [e] at h; exact h
      | exc c s e1 => rw [e] at h; exact h
      | bad => rw [e] at h; exact h
    refine h2.bind fun x e1 Z1 H1 s1 h1 u g => ?_
    cases er : rng1 x.d with
    | none => rw [er] at h1; exact h1.elim
    | some xs =>
      rw [er] at h1
      have h1 : Post L X.K Ew σ Z H env (PG1 X.K H Q) (if szOk xs.length = true then .ok (.l xs) e1 else .bad) := h1
      split at h1
      · rename_i hz
        cases hx : x.d with
        | int j =>
          rw [hx] at er
          obtain ⟨hs, rfl⟩ := itesome (show (if smallI j = true then _ else none) = some xs from er)
          obtain ⟨b1, b2⟩ := small_of hs
          have hz := szOk_of hz
          rw [sizeLine_eq] at hz
          have hl : (rngD 0 j.toNat).length = j.toNat := by unfold rngD; rw [List.length_map, List.length_range]
          rw [hl] at hz
          refine ⟨j, dp_intv g hx, ⟨by omega, by omega, b1, b2, by simpa using hz⟩, fun q hq => ?_⟩
          refine h1 _ _ (s1.trans (Stp.new (o := .lst (rgV 0 j)) s1.re hq)) (.ref q) ⟨q, _, rfl, free_of s1.mv.dm hq, upd_same, s1.re.ex.free hq, ?_⟩
          have := dpa_rng (K := X.K) (Z := Z1) 0 j
          simpa using this
        | _ => rw [hx] at er; cases er
      · exact h1.elim
theorem c_list2 (c : Cq L CX k Ew N sc X) {a b : E} {a' b' : Expr} {p p2 pos pos2 : Pos} (g : isGl sc "list" = true) (g2 : isGl sc "range" = true) (ns : notStar a' = true) (ns2 : notStar b' = true) (ha : PE X a' (tE L X.K Ew a)) (hb : PE X b' (tE L X.K Ew b)) :
    PE X (.Call (.Name "list" p) [.Call (.Name "range" p2) [a', b'] [] pos2] [] pos) (tE L X.K Ew (.listR (.r2 a b))) :=
  peImp (pe_listRg c.calm (gl_of (by rw [c.sc]; exact g)) (c.blt _ (blt_in (by decide))) (prg_2 (gl_of (by rw [c.sc]; exact g2)) (c.blt _ (blt_in (by decide))) ha hb (star_cons ns) (star_cons ns2) (star_any (by simp [ns2])))) fun σ H Q q => by
    obtain ⟨Z, env, r0, h⟩ := q
    simp only [evE, evIt] at h
    refine ⟨Z, env, r0, ?_⟩
    have h2 : Post L X.K Ew σ Z H env (PG1 X.K H Q) ((evE L.ft L.gl a env).bind fun x e1 => (evE L.ft L.gl b e1).bind fun y e2 => (Out.lift (rng2 x.d y.d) e2).bind fun xs e1 => if szOk xs.length = true then .ok (.l xs) e1 else .bad) := by
      cases e : evE L.ft L.gl a env with
      | ok x e1 =>
        rw [e] at h
        show Post L X.K Ew σ Z H env (PG1 X.K H Q) ((evE L.ft L.gl b e1).bind _)
        cases e2 : evE L.ft L.gl b e1 with
        | ok y e3 =>
          have h : Post L X.K Ew σ Z H env (PG1 X.K H Q) (Out.bind ((evE L.ft L.gl b e1).bind _) _) := h
          rw [e2] at h; exact h
        | exc c s e3 =>
          have h : Post L X.K Ew σ Z H env (PG1 X.K H Q) (Out.bind ((evE L.ft L.gl b e1).bind _) _) := h
          rw [e2] at h; exact h
        | bad =>
          have h : Post L X.K Ew σ Z H env (PG1 X.K H Q) (Out.bind ((evE L.ft L.gl b e1).bind _) _) := h
          rw [e2] at h; exact h
      | exc c s e1 => rw [e] at h; exact h
      | bad => rw [e] at h; exact h
    refine h2.bind fun x e1 Z1 H1 s1 h1 u g => ?_
    obtain ⟨Z2, s2, du⟩ := s1.toV r0 g
    refine ⟨Z2, e1, s2.re, (h1.step s2).bind fun y e2 Z3 H3 s3 h3 v g3 => ?_⟩
    cases er : rng2 x.d y.d with
    | none => rw [er] at h3; exact h3.elim
    | some xs =>
      rw [er] at h3
      have h3 : Post L X.K Ew σ Z2 H1 e1 (PG1 X.K H Q) (if szOk xs.length = true then .ok (.l xs) e2 else .bad) := h3
      split at h3
      · rename_i hz
        cases hx : x.d with
        | int i =>
          cases hy : y.d with
          | int j =>
            rw [hx, hy] at er
            obtain ⟨hs, rfl⟩ := itesome (show (if (smallI i && smallI j) = true then _ else none) = some xs from er)
            rw [Bool.and_eq_true] at hs
            obtain ⟨b1, b2⟩ := small_of hs.1
            obtain ⟨b3, b4⟩ := small_of hs.2
            have hz := szOk_of hz
            rw [sizeLine_eq] at hz
            have hl : (rngD i (j - i).toNat).length = (j - i).toNat := by unfold rngD; rw [List.length_map, List.length_range]
            rw [hl] at hz
            refine ⟨i, j, dp_intv g hx, dp_intv g3 hy, ⟨b1, b2, b3, b4, by simpa using hz⟩, fun q hq => ?_⟩
            exact h3 _ _ (s3.trans (Stp.new (o := .lst (rgV i j)) s3.re hq)) (.ref q) ⟨q, _, rfl, free_of (fun b hb => s3.mv.dm b (s2.mv.dm b hb)) hq, upd_same, s3.re.ex.free hq, dpa_rng i j⟩
          | _ => rw [hx, hy] at er; cases er
        | _ => rw [hx] at er; cases er
      · exact h3.elim
/-- tuple(range(..)), kept with its object -/
theorem pe_tupRgZ {e : Expr} {te : St → Hp → (Int → Int → Hp → Prop) → Prop} {p pos : Pos} (hc : X.calm = true) (hg : Gl X "tuple") (hm : X.mg "tuple" = none) (he : PRg X e te) (na : starEach [e] X.env = (false, eval e X.env) :: starEach [] X.env := by rfl) :
    PE X (.Call (.Name "tuple" p) [e] [] pos) fun σ H Q => te σ H fun a b H1 => RgOk a b ∧ ∀ its q, H1 q = none → Q (.ref q) (upd H1 q (.frz (tobj its) (.tup (rgV a b)))) := by
  constructor
  intro pins s σ H Q I h
  refine Call_ (ld_blt I hg hm boot_tuple (PyProof.Rows.callWith_type1 (args_cons (thn (he pins s σ H _ I h) ?_) na) na))
  rintro x s1 ⟨r, a, b, t, u, v, H1, rfl, hr, I1, ⟨b1, b2, b3, b4, b5⟩, q⟩
  refine args_nil (call_tuple_range (n := (b - a).toNat) (I1.ok.hd hc) hr (small_one b1 b2 b3 b4) (rangeSize_nat a b) b5 fun h' tk acc hk hi => ?_)
  have I2 : Inv X pins σ H1 { s1 with heap := h', toks := tk } := I1.kept hk
  have gt : (h'.push (tobj acc.toList)).get? h'.objs.size = some (tobj acc.toList) := Heap.get?_push_size _ rfl
  have z : (rgV a b).length ≤ sizeLine := by
    rw [rgV_length, sizeLine_eq]
    omega
  have I3 := Inv.laid (t' := tk) (o := .frz (tobj acc.toList) (.tup (rgV a b))) I2 (fun c o e => Heap.get?_push_of_some _ e) (Nat.le_refl _) ⟨gt, z, acc.toList, vals_rg hi, _, gt, rfl, 0, rfl⟩
  refine ⟨.ref h'.objs.size, _, ?_, rfl, q acc.toList _ (I2.hok.fresh (Nat.le_refl _))⟩
  unfold tobj at I3 ⊢
  simpa only [Array.toArray_toList] using I3
theorem c_tup1 (c : Cq L CX k Ew N sc X) {a : E} {a' : Expr} {p p2 pos pos2 : Pos} (g : isGl sc "tuple" = true) (g2 : isGl sc "range" = true) (ns : notStar a' = true) (ha : PE X a' (tE L X.K Ew a)) :
    PE X (.Call (.Name "tuple" p) [.Call (.Name "range" p2) [a'] [] pos2] [] pos) (tE L X.K Ew (.tupR (.r1 a))) :=
  peImp (pe_tupRgZ c.calm (gl_of (by rw [c.sc]; exact g)) (c.blt _ (blt_in (by decide))) (prg_1 (gl_of (by rw [c.sc]; exact g2)) (c.blt _ (blt_in (by decide))) ha (star_cons ns))) fun σ H Q q => by
    obtain ⟨Z, env, r0, h⟩ := q
    simp only [evE, evIt] at h
    refine ⟨Z, env, r0, ?_⟩
    have h2 : Post L X.K Ew σ Z H env (PG1 X.K H Q) ((evE L.ft L.gl a env).bind fun x e1 => (Out.lift (rng1 x.d) e1).bind fun xs e1 => if szOk xs.length = true then .ok (.v (.tuple xs)) e1 else .bad) := by
      cases e : evE L.ft L.gl a env with
      | ok x e1 => rw [e] at h; exact h
      | exc c s e1 => rw [e] at h; exact h
      | bad => rw [e] at h; exact h
    refine h2.bind fun x e1 Z1 H1 s1 h1 u g => ?_
    cases er : rng1 x.d with
    | none => rw [er] at h1; exact h1.elim
    | some xs =>
      rw [er] at h1
      have h1 : Post L X.K Ew σ Z H env (PG1 X.K H Q) (if szOk xs.length = true then .ok (.v (.tuple xs)) e1 else .bad) := h1
      split at h1
      · rename_i hz
        cases hx : x.d with
        | int j =>
          rw [hx] at er
          obtain ⟨hs, rfl⟩ := itesome (show (if smallI j = true then _ else none) = some xs from er)
          obtain ⟨b1, b2⟩ := small_of hs
          have hz := szOk_of hz
          rw [sizeLine_eq] at hz
          have hl : (rngD 0 j.toNat).length = j.toNat := by unfold rngD; rw [List.length_map, List.length_range]
          rw [hl] at hz
          refine ⟨j, dp_intv g hx, ⟨by omega, by omega, b1, b2, by simpa using hz⟩, fun its q hq => ?_⟩
          refine h1 _ _ (s1.trans (Stp.newZ (o := .frz (tobj its) (.tup (rgV 0 j))) s1.re hq ntb_frz rfl)) (.ref q) (.tup (.inl (.inr ⟨_, upd_same⟩)) ?_)
          have := dpa_rng (K := X.K) (Z := upd Z1 q (.frz (tobj its) (.tup (rgV 0 j)))) 0 j
          simpa using this
        | _ => rw [hx] at er; cases er
      · exact h1.elim
theorem c_tup2 (c : Cq L CX k Ew N sc X) {a b : E} {a' b' : Expr} {p p2 pos pos2 : Pos} (g : isGl sc "tuple" = true) (g2 : isGl sc "range" = true) (ns : notStar a' = true) (ns2 : notStar b' = true) (ha : PE X a' (tE L X.K Ew a)) (hb : PE X b' (tE L X.K Ew b)) :
    PE X (.Call (.Name "tuple" p) [.Call (.Name "range" p2) [a', b'] [] pos2] [] pos) (tE L X.K Ew (.tupR (.r2 a b))) :=
  peImp (pe_tupRgZ c.calm (gl_of (by rw [c.sc]; exact g)) (c.blt _ (blt_in (by decide))) (prg_2 (gl_of (by rw [c.sc]; exact g2)) (c.blt _ (blt_in (by decide))) ha hb (star_cons ns) (star_cons ns2) (star_any (by simp [ns2])))) fun σ H Q q => by
    obtain ⟨Z, env, r0, h⟩ := q
    simp only [evE, evIt] at h
    refine ⟨Z, env, r0, ?_⟩
    have h2 : Post L X.K Ew σ Z H env (PG1 X.K H Q) ((evE L.ft L.gl a env).bind fun x e1 => (evE L.ft L.gl b e1).bind fun y e2 => (Out.lift (rng2 x.d y.d) e2).bind fun xs e1 => if szOk xs.length = true then .ok (.v (.tuple xs)) e1 else .bad) := by
      cases e : evE L.ft L.gl a env with
      | ok x e1 =>
        rw [e] at h
        show Post L X.K Ew σ Z H env (PG1 X.K H Q) ((evE L.ft L.gl b e1).bind _)
        cases e2 : evE L.ft L.gl b e1 with
        | ok y e3 =>
          have h : Post L X.K Ew σ Z H env (PG1 X.K H Q) (Out.bind ((evE L.ft L.gl b e1).bind _) _) := h
          rw [e2] at h; exact h
        | exc c s e3 =>
          have h : Post L X.K Ew σ Z H env (PG1 X.K H Q) (Out.bind ((evE L.ft L.gl b e1).bind _) _) := h
          rw [e2] at h; exact h
        | bad =>
          have h : Post L X.K Ew σ Z H env (PG1 X.K H Q) (Out.bind ((evE L.ft L.gl b e1).bind _) _) := h
          rw [e2] at h; exact h
      | exc c s e1 => rw [e] at h; exact h
      | bad => rw [e] at h; exact h
    refine h2.bind fun x e1 Z1 H1 s1 h1 u g => ?_
    obtain ⟨Z2, s2, du⟩ := s1.toV r0 g
    refine ⟨Z2, e1, s2.re, (h1.step s2).bind fun y e2 Z3 H3 s3 h3 v g3 => ?_⟩
    cases er : rng2 x.d y.d with
    | none => rw [er] at h3; exact h3.elim
    | some xs =>
      rw [er] at h3
      have h3 : Post L X.K Ew σ Z2 H1 e1 (PG1 X.K H Q) (if szOk xs.length = true then .ok (.v (.tuple xs)) e2 else .bad) := h3
      split at h3
      · rename_i hz
        cases hx : x.d with
        | int i =>
          cases hy : y.d with
          | int j =>
            rw [hx, hy] at er
            obtain ⟨hs, rfl⟩ := itesome (show (if (smallI i && smallI j) = true then _ else none) = some xs from er)
            rw [Bool.and_eq_true] at hs
            obtain ⟨b1, b2⟩ := small_of hs.1
            obtain ⟨b3, b4⟩ := small_of hs.2
            have hz := szOk_of hz
            rw [sizeLine_eq] at hz
            have hl : (rngD i (j - i).toNat).length = (j - i).toNat := by unfold rngD; rw [List.length_map, List.length_range]
            rw [hl] at hz
            refine ⟨i, j, dp_intv g hx, dp_intv g3 hy, ⟨b1, b2, b3, b4, by simpa using hz⟩, fun its q hq => ?_⟩
            exact h3 _ _ (s3.trans (Stp.newZ (o := .frz (tobj its) (.tup (rgV i j))) s3.re hq ntb_frz rfl)) (.ref q) (.tup (.inl (.inr ⟨_, upd_same⟩)) (dpa_rng i j))
          | _ => rw [hx, hy] at er; cases er
        | _ => rw [hx] at er; cases er
      · exact h3.elim
end
end PL

/-! part PLTold -/
set_option Elab.async false
set_option linter.all false
set_option autoImplicit false
set_option maxRecDepth 100000
set_option maxHeartbeats 4000000
/-! a def that calls a lambda and tells the word of the exception -/
namespace PL
open PySem PySem.Spec PyProof.Rows L2 LamX
theorem takes_len {X : Cx} {W : WX} (t : Takes X W) : Takes X (fun cls d σ H => σ.length = X.N.length → W cls d σ H) := fun u s' ⟨a, B, sI, pins, σ, H, cls, d, e, I, nb, up, sky, na, os, ag, w⟩ =>
  t u s' ⟨a, B, sI, pins, σ, H, cls, d, e, I, nb, up, sky, na, os, ag, w I.len⟩
/-- try: a() / except e as en: return en.fld / return '' -/
def TRef (K : PySem.W.Frag) (C : Addr) (fld : Str) : (XK → Hp → VK → Prop) → Hp → VK → Prop := fun tl H Q =>
  tl (fun cls d H' => cls = .ref C ∧ ∃ (dd : Addr) (s : Str), d = some dd ∧ H' dd = some (.xd [(fld, .str s)]) ∧ Q (.str s) H') H (fun _ H' => Q (.str "") H')
theorem refused_gives {X : Cx} {x a e en q fld : Str} {sg : Scope} {g C : Addr} {cdg : Value} {j : Nat} {p1 p2 p3 p4 p5 p6 p7 p8 p9 p10 p11 : Pos} (hge : sg.names.lookup e = some .globalImplicit) (hle : sg.names.lookup en = some .local) (hme : X.mg e = some (.ref C)) (hde : (e == ("__debug__" : Str)) = false)
    (hd1 : (en == ("__debug__" : Str)) = false) (hd2 : (en == ("__classdict__" : Str)) = false) (hne : a ≠ en) (hex : PySem.W.exmOne X.K (.ref C) (.ref C) = some true) (T : XfC X.K C) (hno : PySem.W.findIn X.K (.ref C) fld = some none) :
    GivesTo X [a, en] x sg g cdg [.Try [.Expr (.Call (.Name a p1) [] [] p2) p3] [.ExceptHandler (some (.Name e p4)) (some en) [.Return (some (.Attribute (.Name en p5) fld p6)) p7] p8] [] [] p9, .Return (some (.Constant (.str "") j p10)) p11] a q (TRef X.K C fld) := by
  intro f c' s H Q tl act hc h
  have hgl : Gl (cxOf C8.CX0 X.prog X.w X.K X.mg X.base [a, en] x sg g cdg X.A X.stack s H C8.E0).nox e := hge
  have hnd : ([a, en] : List Str).Nodup := by simp [hne]
  refine ⟨_, pss_cons (ps_try_as (X := (cxOf C8.CX0 X.prog X.w X.K X.mg X.base [a, en] x sg g cdg X.A X.stack s H C8.E0).nox) (c := .ref C) (i := 1)
      (tb := fun W D σ H => ∃ Ech : XK, (∀ cls d σ' H', σ'.length = 2 → Ech cls d H' → W cls d σ' H') ∧ σ[0]? = some (some (.ref f)) ∧ H c' = some (CodeO c' q) ∧ tl Ech H fun _ H' => D.nx σ H')
      rfl rfl hnd rfl hle ⟨hgl, hde, .inl hme⟩ LamX.takes0 (fun W pn xe tk _ => ?_) (fun a' oe cls d pn hz hf => pss_one (ps_ret (pe_xf (C := C) T hno hz hf (pe_var (i := 1) rfl (.inl hle) hd1 hd2) rfl)))) (pss_one (ps_ret pe_str)), ?_⟩
  · refine ⟨fun pins s' σ H' D I h' => ?_⟩
    obtain ⟨Ech, hW, h1, h2, h3⟩ := h'
    have hp := act (fun cls d σ H => σ.length = 2 → W cls d σ H) pn xe Ech p1 p2 (takes_len tk) (fun cls d σ' H' z l => hW cls d σ' H' l z)
    have hq := pss_one (ps_expr (pos := p3) hp rfl)
    exact hq.run pins s' σ H' D I ⟨h1, h2, h3⟩
  · refine ⟨fun cls d H' => cls = .ref C ∧ ∃ (dd : Addr) (s : Str), d = some dd ∧ H' dd = some (.xd [(fld, .str s)]) ∧ Q (.str s) H', fun cls d σ' H' hl ⟨e1, dd, z, e2, e3, e4⟩ => ?_, rfl, hc, h⟩
    subst e1 e2
    refine ⟨true, hex, fun _ a' ha' => ?_, fun z => by cases z⟩
    exact ⟨.ref a', by rw [List.getElem?_set_self (by omega)], rfl, rfl, dd, _, .str z, rfl, e3, by simp [List.lookup], e4⟩
/-! a lambda made and handed on: no known object goes (what is told of the heap is more than LamX says) -/
/-- nothing of H is gone -/
def NoGo (H H1 : Hp) : Prop := ∀ b, H b ≠ none → H1 b ≠ none
theorem nogo_table {H : Hp} {P c : Addr} {o u : HO} : NoGo H (upd (upd H P o) c u) := fun b h => by
  by_cases h1 : b = c
  · rw [h1, upd_same]; simp
  · rw [upd_ne h1]
    by_cases h2 : b = P
    · rw [h2, upd_same]; simp
    · rw [upd_ne h2]; exact h
section
variable {X : Cx} {pins : List (Addr × Obj)} {σ : L2.St} {H : Hp} {s : Shared}
theorem lam_new {T : List (Addr × Str)} {c P : Addr} {params : Arguments} {body : Expr} {scope : Scope} {pos : Pos} {E : Value → Shared → Prop} {Q : Value → Shared → Prop} (I : Inv X pins σ H s) (TB : TabB X.base X.mg c P) (hcode : X.env.code = .ref c)
    (hm : (P, X.env.qual ++ "<lambda>") ∈ T) (hu : ∀ p ∈ T, p.1 = P → p.2 = X.env.qual ++ "<lambda>") (hT : Tabs T H) (hdef : defaultsOf params X.env = ([], [])) (hfree : ∀ y ∈ scope.names, y.2 = .free → ∃ c, X.env.cells.lookup y.1 = some c)
    (h : ∀ (f c' : Addr) (pm ctv : Value) (H1 : Hp) (s' : Shared), Inv X pins σ H1 s' → ExtN H H1 → NoGo H H1 → Tabs T H1 →
      s'.heap.get? f = some (PySem.W.kla_obj "<lambda>" (X.env.qual ++ "<lambda>") params body scope (cloFrom X.env.cells scope.names []) pm c' ctv) → H1 f = none → f ∉ frs X.stack → H1 c' = some (CodeO c' (X.env.qual ++ "<lambda>")) → Q (.ref f) s') :
    wpAny (model X.prog X.w) X.A (eval (.Lambda params body scope pos) X.env) Q E s := by
  obtain ⟨ps, hP, ht, ha⟩ := hT _ hm
  have bP : s.heap.BuiltinsAt X.mg P := TB.bm.keeps I.bk
  have hP' : s.heap.get? P = some { cls := .none, data := .fields ps } := I.hok P _ hP
  have away : ∀ f, s.heap.objs.size ≤ f → f ∉ frs X.stack := fun f hf z => by
    rcases List.mem_cons.mp (I.stkSub _ z) with e | e
    · have h1 := I.lt
      rw [← e] at h1
      exact absurd (Nat.lt_of_lt_of_le h1 hf) (Nat.lt_irrefl _)
    · exact I.nofs hf e
  refine PySem.W.kla_eval hdef ?_
  cases hc : codeAmong pos ps.toList with
  | some cv =>
    obtain ⟨c', rfl, hco⟩ := ha pos cv hc
    refine PySem.W.kla_makeFunctionHit (mg := X.mg) (c := c) (P := P) (ps := ps) (closure_ok hfree) I.ok.glob (I.mod.glob.keeps I.bk) hcode (TB.code.keeps I.bk) hP' ht hc bP fun ctv h' tk hx hsz => ?_
    exact h h'.objs.size c' ((X.mg "__name__").getD .none) ctv H _ (I.kept (t' := tk) fun b o e => Heap.get?_push_of_some _ (hx b o e)) (ExtN.refl H) (fun _ z => z) hT (Heap.get?_push_size _ rfl) (I.hok.fresh hsz) (away _ hsz) hco
  | none =>
    refine PySem.W.kla_makeFunction (mg := X.mg) (c := c) (P := P) (ps := ps) (closure_ok hfree) I.ok.glob (I.mod.glob.keeps I.bk) hcode (TB.code.keeps I.bk) hP' ht hc TB.gP bP fun c' ctv h' tk hx hge hlt hrec htb => ?_
    obtain ⟨c2, oc, vs, t, e2, hoc, hd, hv⟩ := hrec
    cases e2
    have hsz : s.heap.objs.size ≤ h'.objs.size := Nat.le_trans hge (Nat.le_of_lt hlt)
    have nC : H c' = none := I.hok.fresh hge
    have J := inv_table (t' := tk) (more := #[rawInt pos.line, rawInt pos.col, .ref c']) (h' := h'.push (PySem.W.kla_obj "<lambda>" (X.env.qual ++ "<lambda>") params body scope (cloFrom X.env.cells scope.names []) ((X.mg "__name__").getD .none) c' ctv)) I hP
      (fun b o hb e => Heap.get?_push_of_some _ (hx b o hb e)) (Heap.get?_push_of_some _ htb) hge ⟨oc, vs, t, Heap.get?_push_of_some _ hoc, hd, hv⟩
    have hE : ExtN H (upd (upd H P (.tbl (ps ++ #[rawInt pos.line, rawInt pos.col, .ref c']))) c' (CodeO c' (X.env.qual ++ "<lambda>"))) := fun b o e n => by
      have n2 : b ≠ P := fun z => by rw [z, hP] at e; exact n ps (Option.some.inj e).symm
      rw [upd_ne (ne_of_none e nC), upd_ne n2]
      exact e
    refine h h'.objs.size c' ((X.mg "__name__").getD .none) ctv _ _ J hE nogo_table (fun p hp => ?_) (Heap.get?_push_size _ rfl) ?_ (away _ hsz) upd_same
    · by_cases hb : p.1 = P
      · have eL : (ps ++ #[rawInt pos.line, rawInt pos.col, .ref c']).toList = ps.toList ++ [rawInt pos.line, rawInt pos.col, .ref c'] := by simp
        rw [hu p hp hb, hb]
        refine ⟨_, by rw [upd_ne (ne_of_none hP nC), upd_same], by rw [eL]; exact PySem.TriplesOk_snoc _ _ _ _ ht, fun p' cv hcv => ?_⟩
        rw [eL] at hcv
        rcases among_app _ ht hcv with z | z
        · obtain ⟨c0, e1, e2⟩ := ha p' cv z
          exact ⟨c0, e1, hE _ _ e2 codeO_ne⟩
        · exact ⟨c', z, upd_same⟩
      · obtain ⟨ps', a1, a2, a3⟩ := hT p hp
        refine ⟨ps', by rw [upd_ne (ne_of_none a1 nC), upd_ne hb]; exact a1, a2, fun p' cv hcv => ?_⟩
        obtain ⟨c0, e1, e2⟩ := a3 p' cv hcv
        exact ⟨c0, e1, hE _ _ e2 codeO_ne⟩
    · rw [upd_ne (Nat.ne_of_gt hlt), upd_ne (Nat.ne_of_gt (Nat.lt_of_lt_of_le (Heap.lt_size hP') hsz))]
      exact I.hok.fresh hsz
/-- x(lambda: body) -/
def tLamN (T : List (Addr × Str)) (TT : (XK → Hp → VK → Prop) → Hp → VK → Prop) (t : XK → TE) : TE := fun σ H Q => Tabs T H ∧ ∀ H1, ExtN H H1 → NoGo H H1 → Tabs T H1 → TT (fun E H' Q' => t E σ H' Q') H1 Q
theorem pe_lamN {T : List (Addr × Str)} {TT : (XK → Hp → VK → Prop) → Hp → VK → Prop} {x a : Str} {g c P : Addr} {k : Nat} {pg : Arguments} {bg : List Stmt} {sg : Scope} {dV kV doc pm cdv ct oc : Value} {an od : Option Addr} {osl : Array (Option Value)} {Ng : List Str}
    {params : Arguments} {body : Expr} {scope : Scope} {t : XK → TE} {p lpos pos : Pos} (hg : Gl X x) (hm : X.mg x = some (.ref g)) (hk : PySem.W.keepIn X.K (.ref g) = true)
    (lk : X.K.lookup g = some ⟨oc, od, .func (PySem.W.fnOf x x pg bg sg dV kV doc pm an cdv ct), osl⟩) (hcg : PySem.W.codeIn X.K cdv x = true) (hb : L2.Binds X.K (PySem.W.fnOf x x pg bg sg dV kV doc pm an cdv ct) [a] []) (Sg : FnScope Ng [a] sg) (hNg : Ng[0]? = some a) (hva : Vis sg a)
    (hG : GivesTo X Ng x sg g cdv bg a (X.env.qual ++ "<lambda>") TT)
    (TB : TabB X.base X.mg c P) (hcode : X.env.code = .ref c) (hmT : (P, X.env.qual ++ "<lambda>") ∈ T) (hu : ∀ p ∈ T, p.1 = P → p.2 = X.env.qual ++ "<lambda>") (hr : Room (k + 2) X.A) (L : LamS X.env.scope scope) (hdef : defaultsOf params X.env = ([], []))
    (hbind : ∀ (q : Str) (cl : List (Str × Addr)) (pm cv ctv : Value), bindArgs (PySem.W.kla_fn "<lambda>" q params body scope cl pm cv ctv) ⟨[], []⟩ = pure [])
    (hbody : ∀ (A : Around) (outer : List Env) (s : Shared) (H : Hp) (E : XK) (f c' : Addr), Room k (A.deeper (lamEnv X scope s.heap.objs.size f c')) → PE (lamCx X A outer s H E scope f c') body (t E))
    (hdb : (x == ("__debug__" : Str)) = false) (hd : (a == ("__debug__" : Str)) = false) (hcd : (a == ("__classdict__" : Str)) = false) :
    PE X (.Call (.Name x p) [.Lambda params body scope lpos] [] pos) (tLamN T TT t) := by
  refine ⟨fun pins s σ H Q I ⟨hT, h⟩ => ?_⟩
  refine wpAny_Call_Name_kw (ld_glob I hg hm ?_ hdb)
  refine PySem.W.callWith_K (h₀ := X.base) I.ok.mod.kin hk ?_ (by rfl) (by rfl)
  show wpAny _ _ (spliced ((false, eval (.Lambda params body scope lpos) X.env) :: backTo pos (starEach [] X.env))) _ _ s
  refine Calls.spliced_cons (lam_new I TB hcode hmT hu hT hdef (L.has I.ok) fun f c' pm' ctv H1 s' J eN nG T1 hf hfn hfr hco => Calls.spliced_nil ⟨J.kIn, wpAny_call (codeAny_mono (R := CR C8.CX0 X.stack X.prog X.w H1 s' Q C8.E0) ?_ fun r s2 hq => ?_)⟩)
  · refine run_ofS (N := Ng) (ps := [a]) (us := [.ref f]) (vs := [.ref f]) lk hcg Sg hr J.env0 (hb s' [.ref f] J.kIn rfl) (.cons rfl .nil) rfl fun hr' => ?_
    obtain ⟨t', ht', hq'⟩ := hG f c' s' H1 Q (fun E H' Q' => t E σ H' Q') (fun W pn xe E p1 p2 tk hW => pe_act (i := 0) J L hf hfn hfr (hbind _ _ _ _ _) tk hW hr' (fun A outer s H hr2 => hbody A outer s H E f c' hr2) hNg hva hd hcd) hco (h H1 eN nG T1)
    exact ⟨t', ht'.nox, hq'⟩
  · cases r with
    | error e => exact (show False from hq).elim
    | ok fl => cases fl with
      | ret u => exact J.after hq
      | next => exact False.elim hq
      | brk => exact False.elim hq
      | cont => exact False.elim hq
end
/-- the def that asks: its body, by the kind of the question -/
def askB (kd : Nat) (bg : List Stmt) (a e en fld : Str) : Prop := match kd with
  | 0 => ∃ (j : Nat) (p1 p2 p3 p4 p5 p6 p7 p8 p9 p10 p11 : Pos), bg = [.Try [.Expr (.Call (.Name a p1) [] [] p2) p3] [.ExceptHandler (some (.Name e p4)) (some en) [.Return (some (.Attribute (.Name en p5) fld p6)) p7] p8] [] [] p9, .Return (some (.Constant (.str "") j p10)) p11]
  | _ => False
/-- what the program says of it -/
structure TlP (K : PySem.W.Frag) (mg : Str → Option Value) (L : Lk) (kd : Nat) (x : Str) : Prop where
  nd : (x == ("__debug__" : Str)) = false
  ex : ∃ (g C : Addr) (fld a e en : Str) (pg : Arguments) (bg : List Stmt) (sg : Scope) (dV kV doc pm cdv ct oc : Value) (an od : Option Addr) (osl : Array (Option Value)),
    mg x = some (.ref g) ∧ PySem.W.keepIn K (.ref g) = true ∧ K.lookup g = some ⟨oc, od, .func (PySem.W.fnOf x x pg bg sg dV kV doc pm an cdv ct), osl⟩ ∧ PySem.W.codeIn K cdv x = true ∧ L2.Binds K (PySem.W.fnOf x x pg bg sg dV kV doc pm an cdv ct) [a] [] ∧ FnScope [a, en] [a] sg ∧
    L.xc[kd]? = some (C, fld) ∧ askB kd bg a e en fld ∧ sg.names.lookup e = some .globalImplicit ∧ sg.names.lookup en = some .local ∧ Vis sg a ∧ mg e = some (.ref C) ∧ (e == ("__debug__" : Str)) = false ∧
    (en == ("__debug__" : Str)) = false ∧ (en == ("__classdict__" : Str)) = false ∧ (a == ("__debug__" : Str)) = false ∧ (a == ("__classdict__" : Str)) = false ∧ a ≠ en ∧ PySem.W.exmOne K (.ref C) (.ref C) = some true ∧ XfC K C ∧ PySem.W.findIn K (.ref C) fld = some none
/-- the table of the code that runs -/
structure TlC (L : Lk) (X : Cx) (c P : Addr) : Prop where
  tb : TabB X.base X.mg c P
  code : X.env.code = .ref c
  mem : (P, X.env.qual ++ "<lambda>") ∈ L.T
  uniq : ∀ p ∈ L.T, p.1 = P → p.2 = X.env.qual ++ "<lambda>"
structure TlX (L : Lk) (CX : CXT) (k : Nat) (X : Cx) : Prop where
  cx : CX = L2.CX X.prog X.w
  lv : ∃ k2, k = k2 + 2 ∧ ∀ f x, L.fnm[f]? = some x → FnIn L CX k2 X f x
  pr : ∀ kd x, L.tl[kd]? = some x → TlP X.K X.mg L kd x
  ta : ∃ c P, TlC L X c P
section
variable {L : Lk} {CX : CXT} {k k2 : Nat} {Ew : XK} {N : List Str} {sc : Scope} {X : Cx}
theorem TlX.blk (t : TlX L CX k X) {scope : Scope} {s : Shared} {H : Hp} {cl : List (Str × Addr)} {C : Addr} {fp : List Addr} : TlX L CX k (Xb X s H scope cl C fp) := by
  obtain ⟨k2, e, h⟩ := t.lv
  obtain ⟨c, P, h1, h2, h3, h4⟩ := t.ta
  exact ⟨t.cx, ⟨k2, e, fun f x q => (h f x q).blk⟩, t.pr, ⟨c, P, h1, h2, h3, h4⟩⟩
/-- the lambda's own context -/
theorem cq_lam (c : Cq L (L2.CX X.prog X.w) k Ew N sc X) {A : Around} {outer : List Env} {s : Shared} {H : Hp} {E : XK} {scope : Scope} {f c' : Addr} (hr : Room k2 (A.deeper (lamEnv X scope s.heap.objs.size f c'))) :
    Cq L (L2.CX X.prog X.w) k2 E N scope (lamCx X A outer s H E scope f c') :=
  ⟨rfl, c.N, rfl, hr, c.nd, fun pins σ H s e s' I h => passes_call (W := fun cls d _ H => E cls d H) (takes_of rfl rfl rfl rfl) (fun _ _ _ _ h => h) pins σ H s e s' I h, c.cx0, c.blt, c.gl, c.tk⟩
def emptyArgs (p : Arguments) : Bool := match p with
  | ⟨[], [], none, [], [], none, []⟩ => true
  | _ => false
theorem empty_def {p : Arguments} (h : emptyArgs p = true) : p = ⟨[], [], none, [], [], none, []⟩ := by
  unfold emptyArgs at h
  split at h
  · rfl
  · cases h
theorem c_told (c : Cq L CX k Ew N sc X) (t : TlX L CX k X) {e : E} {x : Str} {params : Arguments} {body : Expr} {scope : Scope} {p lpos pos : Pos} (hx : L.tl[0]? = some x) (g : isGl sc x = true) (lb : lamSB sc scope = true) (em : emptyArgs params = true)
    (ih : ∀ (k2 : Nat) (E : XK) (X' : Cx), Cq L CX k2 E N scope X' → (∀ f y, L.fnm[f]? = some y → FnIn L CX k2 X' f y) → PE X' body (tE L X'.K E e)) :
    PE X (.Call (.Name x p) [.Lambda params body scope lpos] [] pos) (tE L X.K Ew (.told 0 0 e)) := by
  obtain ⟨k2, rfl, hf⟩ := t.lv
  obtain ⟨cc, P, TB, hcode, hmT, hu⟩ := t.ta
  have hcx := t.cx
  subst hcx
  obtain ⟨nd, g', C, fld, a, en0, en, pg, bg, sg, dV, kV, doc, pm, cdv, ct, oc, an, od, osl, hm, hk, lk, hcg, hb, Sg, hxc, hB, hge, hle, hva, hme, hde, h1, h2, h3, h4, hne, hex, hXf, hno⟩ := t.pr 0 x hx
  obtain ⟨j, p1, p2, p3, p4, p5, p6, p7, p8, p9, p10, p11, rfl⟩ := hB
  have hp := empty_def em
  subst hp
  refine peImp (pe_lamN (k := k2) (T := L.T) (t := fun E => tE L X.K E e) (TT := TRef X.K C fld) (gl_of (by rw [c.sc]; exact g)) hm hk lk hcg hb Sg rfl hva (refused_gives hge hle hme hde h1 h2 hne hex hXf hno) TB hcode hmT hu c.room
    (lamS_by (by rw [c.sc]; exact lb)) rfl (fun _ _ _ _ _ => rfl) (fun A outer s H E f c' hr => ih k2 E _ (cq_lam c hr) fun f y q => ⟨(hf f y q).nd, (hf f y q).ex⟩) nd h3 h4) fun σ H Q q => ?_
  obtain ⟨Z, env, r0, h⟩ := q
  refine ⟨r0.tb, fun H1 eN nG T1 => ?_⟩
  have nc : ∀ b o, H b = some o → NTb o → H1 b = some o := fun b o e n => eN b o e n
  have s0 : Stp X.K L.T σ Z H env Z H1 env := Stp.mk0 (r0.mono (Ex.refl _) ⟨fun b o q n => nc b o (r0.ex.kp b o q n) n, fun b q => nG b (r0.ex.dm b q)⟩ T1 (fun i a us l e q => ⟨nc _ _ q ntb_lst, (r0.ndom ⟨i, l, e⟩).elim fun _ z => z.2⟩) r0.pt)
    ⟨Ex.refl _, fun b o q _ _ n => nc b o q n, nG, fun b q => .inl q⟩
  refine ⟨Z, env, s0.re, ?_⟩
  simp only [evE] at h
  cases ev : evE L.ft L.gl e env with
  | ok r e1 =>
    rw [ev] at h
    dsimp only at h
    rw [if_pos True.intro] at h
    exact fun Z1 H2 s1 u gt => h Z1 H2 (s0.trans s1) (.str "") (.str _)
  | exc c' s e1 =>
    rw [ev] at h
    dsimp only at h
    by_cases hc : c' = 0
    · rw [if_pos hc, if_pos True.intro] at h
      subst hc
      refine fun Z1 H2 s1 C' fld' dd e2 e3 => ?_
      rw [hxc] at e2
      cases e2
      exact ⟨rfl, dd, s, rfl, e3, h Z1 H2 (s0.trans s1) (.str s) (.str _)⟩
    · rw [if_neg hc] at h
      exact h.elim
  | bad => rw [ev] at h; exact h.elim
end
end PL

/-! part PLKey -/
set_option Elab.async false
set_option linter.all false
set_option autoImplicit false
set_option maxRecDepth 100000
set_option maxHeartbeats 4000000
/-! a lambda with one parameter; sorted(.., key=lambda ..) -/
namespace PL
open PySem PySem.Spec PyProof.Rows L2 LamX
/-- one parameter, else captured names and globals -/
structure LamP (sc scope : Scope) (x : Str) : Prop where
  kd : scope.kind = .function
  nco : scope.isCoroutine = false
  ngen : scope.isGenerator = false
  nocell : ∀ y ∈ scope.names, y.2 ≠ .cell
  loc : ∀ y ∈ scope.names, y.2 = .local → y.1 = x
  par : scope.names.lookup x = some .local
  fr : ∀ y ∈ scope.names, y.2 = .free → sc.names.lookup y.1 = some .cell ∨ sc.names.lookup y.1 = some .free
def lamPB (sc scope : Scope) (x : Str) : Bool :=
  decide (scope.kind = .function) && (!scope.isCoroutine && (!scope.isGenerator && (decide (scope.names.lookup x = some .local) && scope.names.all fun y => !decide (y.2 = .cell) && ((!decide (y.2 = .local) || decide (y.1 = x)) && (!decide (y.2 = .free) || (decide (sc.names.lookup y.1 = some .cell) || decide (sc.names.lookup y.1 = some .free)))))))
theorem lamP_by {sc scope : Scope} {x : Str} (h : lamPB sc scope x = true) : LamP sc scope x := by
  unfold lamPB at h
  simp only [Bool.and_eq_true, Bool.or_eq_true, Bool.not_eq_true', decide_eq_true_eq, decide_eq_false_iff_not, List.all_eq_true] at h
  obtain ⟨h1, h2, h3, h4, h5⟩ := h
  refine ⟨h1, h2, h3, fun y hy => (h5 y hy).1, fun y hy e => ?_, h4, fun y hy e => ?_⟩
  · rcases (h5 y hy).2.1 with z | z
    · exact absurd e z
    · exact z
  · rcases (h5 y hy).2.2 with z | z | z
    · exact absurd e z
    · exact .inl z
    · exact .inr z
section
variable {X : Cx} {pins : List (Addr × Obj)} {σ : L2.St} {H : Hp} {s : Shared}
theorem LamP.cells {scope : Scope} {x : Str} (L : LamP X.env.scope scope x) (ok : X.Ok) : ∀ y ∈ scope.names, y.2 = .free → ∃ c, X.env.cells.lookup y.1 = some c := fun y hy e =>
  (L.fr y hy e).elim (fun q => ok.has _ (.inl q)) fun q => ok.has _ (.inr q)
/-- the body's start -/
theorem key_start {A : Around} {outer : List Env} {E : XK} {scope : Scope} {f c' : Addr} {h₁ : Heap} {tk i : Nat} {x : Str} {v : V} {u : Value} (I : Inv X pins σ H s) (hN : X.N.Nodup) (L : LamP X.env.scope scope x) (e0 : Env0 X.prog X.w X.K X.mg X.base A outer s H)
    (hA : A.handled = none) (hi : X.N[i]? = some x) (r : RelV v u) (hns : h₁.Ns s.heap.objs.size fun y => ([(x, u)] : List (Str × Value)).reverse.lookup y) (keep : ∀ b o, s.heap.get? b = some o → h₁.get? b = some o) :
    Inv (lamCx X A outer s H E scope f c') [] (σ.set i (some v)) H { s with heap := h₁, toks := tk } := by
  have cells := L.cells I.ok
  have back : ∀ {y : Str} {c : Addr}, (cloFrom X.env.cells scope.names []).lookup y = some c → X.env.cells.lookup y = some c := fun {y c} e => by
    rcases cloFrom_mem (PySem.mem_of_lookup e) with z | ⟨z1, z2⟩
    · cases z
    · obtain ⟨d, hd⟩ := cells _ z1 rfl
      have hd : X.env.cells.lookup y = some d := hd
      have : c = d := by rw [z2, hd] <;> rfl
      rw [this, hd]
  have into : ∀ {y : Str}, scope.names.lookup y = some .free → ∃ c, (cloFrom X.env.cells scope.names []).lookup y = some c := fun {y} e =>
    mem_lookup (cloFrom_has (cells := X.env.cells) (acc := []) (show (y, NameKind.free) ∈ scope.names from PySem.mem_of_lookup e))
  have cellK : ∀ {c : Addr} {w : Option Value}, s.heap.IsCell c w → h₁.IsCell c w := fun {c w} ⟨o, ho, hd⟩ => ⟨o, keep _ _ ho, hd⟩
  have nex : ∀ b : Addr, b ∉ (lamCx X A outer s H E scope f c').ex := fun b z => absurd (show b ∈ ([] : List Addr) from z) (by simp)
  have σl : i < σ.length := by rw [I.len]; exact (List.getElem?_eq_some_iff.mp hi).1
  exact {
    ok := { mod := e0.mod, kind := L.kd, glob := rfl, blt := rfl, above := Nat.le_refl _, inj := fun y z c e1 e2 => I.ok.inj y z c (back e1) (back e2)
            has := fun y hy => by
              have hy : scope.names.lookup y = some .cell ∨ scope.names.lookup y = some .free := hy
              rcases hy with hy | hy
              · exact absurd rfl (L.nocell _ (PySem.mem_of_lookup hy))
              · exact into hy
            cab := fun y c z _ => by
              have z : false = true := z
              cases z
            hd := fun _ => hA, frames := Around.frames_deeper e0.frames, stk := .inr ⟨rfl, rfl⟩, exf := fun b z => absurd z (nex b), bs := e0.bs, bsz := e0.bsz, noex := fun b _ _ => nex b, exfs := fun b z => absurd z (nex b), funs := e0.funs, frf := e0.frf }
    os := rfl
    bare := e0.bare
    base := Un.kept keep
    loc := ⟨_, hns, fun j y w e1 e2 e3 => by
      have e1 : X.N[j]? = some y := e1
      by_cases hy : y = x
      · subst hy
        have hj : j = i := nodup_ix hN e1 hi
        subst hj
        rw [List.getElem?_set_self σl] at e2
        cases e2
        exact ⟨u, r, .inl ⟨L.par, by simp⟩⟩
      · have hj : i ≠ j := fun z => hy (by rw [z, e1] at hi; exact Option.some.inj hi)
        rw [List.getElem?_set_ne hj] at e2
        have e3 : Vis scope y := e3
        rcases e3 with q | q | q
        · exact absurd (L.loc _ (PySem.mem_of_lookup q) rfl) hy
        · exact absurd rfl (L.nocell _ (PySem.mem_of_lookup q))
        · obtain ⟨m, hn, hl⟩ := I.loc
          have vis : Vis X.env.scope y := (L.fr _ (PySem.mem_of_lookup q) rfl).elim (fun z => .inr (.inl z)) fun z => .inr (.inr z)
          obtain ⟨w', rw', look⟩ := hl j y w e1 e2 vis
          obtain ⟨c2, h2⟩ := into q
          refine ⟨w', rw', .inr ⟨.inr q, c2, h2, ?_⟩⟩
          rcases look with ⟨z, _⟩ | ⟨_, c3, e', z⟩
          · have z : X.env.scope.names.lookup y = some .local := z
            rcases L.fr _ (PySem.mem_of_lookup q) rfl with z2 | z2
            · rw [show X.env.scope.names.lookup y = _ from z2] at z; cases z
            · rw [show X.env.scope.names.lookup y = _ from z2] at z; cases z
          · rw [back h2] at e'
            cases e'
            exact cellK z⟩
    cell := fun y c e => by
      obtain ⟨w', z⟩ := I.cell y c (back e)
      exact ⟨w', cellK z⟩
    free := e0.hok.fresh (Nat.le_refl _)
    freeC := fun y c e => I.freeC y c (back e)
    pin := fun q hq => absurd (show q ∈ ([] : List (Addr × Obj)) ++ [] from hq) (by simp)
    hok := e0.hok.kept keep
    len := by rw [List.length_set]; exact I.len }
theorem cx0_no {P : Program} {w : World} {l : List Env} {H : Hp} {s : Shared} {e : Value} {s' : Shared} (h : L2.CX P w l H s (fun _ _ _ => False) e s') : False := by
  obtain ⟨_, _, _, _, _, _, _, _, _, _, _, _, z⟩ := h
  exact z
/-- f(u), f the lambda -/
theorem key_call {k i : Nat} {x : Str} {f c' : Addr} {params : Arguments} {body : Expr} {scope : Scope} {pm ctv : Value} {t : TE} {A : Around} {v : V} {u : Value} {Q : VK} (I : Inv X pins σ H s) (hN : X.N.Nodup) (L : LamP X.env.scope scope x) (hi : X.N[i]? = some x)
    (hr : Room (k + 1) A) (e0 : Env0 X.prog X.w X.K X.mg X.base A X.stack s H)
    (hf : s.heap.get? f = some (PySem.W.kla_obj "<lambda>" (X.env.qual ++ "<lambda>") params body scope (cloFrom X.env.cells scope.names []) pm c' ctv)) (hc : H c' = some (CodeO c' (X.env.qual ++ "<lambda>")))
    (hbind : bindArgs (PySem.W.kla_fn "<lambda>" (X.env.qual ++ "<lambda>") params body scope (cloFrom X.env.cells scope.names []) pm (.ref c') ctv) ⟨[u], []⟩ = pure [(x, u)])
    (hbody : Room k (A.deeper (lamEnv X scope s.heap.objs.size f c')) → PE (lamCx X A X.stack s H (fun _ _ _ => False) scope f c') body t) (r : RelV v u) (ht : t (σ.set i (some v)) H Q) :
    wpAny (model X.prog X.w) A (call (.ref f) [u]) (CE X.stack X.prog X.w H s Q) (fun _ _ => False) s := by
  obtain ⟨⟨oc, vs, tq, hoc, hdc, hvc⟩, _, _⟩ := I.hok c' _ hc
  refine wpAny_call (codeAny_mono (R := CR (L2.CX X.prog X.w) X.stack X.prog X.w H s Q (fun _ _ _ => False)) ?_ fun r' s' hq => ?_)
  · refine PySem.W.kla_callFunE hr.depth hf rfl L.nco L.ngen rfl ⟨c', oc, vs, tq, rfl, hoc, hdc, hvc⟩ ?_
    rw [hbind]
    have hl : ∀ q ∈ [(x, u)], scope.names.lookup q.1 = some .local := fun q hq => by
      obtain rfl := List.mem_singleton.mp hq
      exact L.par
    refine wpAny_pure (wpAny_newFunctionEnv L.nocell hl (fun h₁ hns hsb => ⟨I.nolimit.fresh _ hsb, ?_⟩) L.kd)
    have keep : ∀ b o, s.heap.get? b = some o → h₁.get? b = some o := fun b o e => hsb.extBut b o (Nat.ne_of_lt (Heap.lt_size e)) (Heap.get?_push_of_some _ e)
    show codeAny (model X.prog X.w) A (.expr body (lamEnv X scope s.heap.objs.size f c')) (CR (L2.CX X.prog X.w) X.stack X.prog X.w H s Q fun _ _ _ => False) _
    have J := key_start (E := fun _ _ _ => False) (f := f) (c' := c') (tk := s.toks + [(x, u)].length) I hN L e0 hr.hd hi r hns keep
    refine PySem.W.kla_codeExpr (wpAny_mono ((hbody (hr.deeper _)).run [] _ _ H Q J ht) (fun w s' hq => ?_) fun e s' hq => hq)
    obtain ⟨w', H', J', rv, q⟩ := hq
    exact ⟨w', H', J'.os, J'.bare, J'.base, J'.hok, rv, q⟩
  · cases r' with
    | error e => exact (cx0_no hq).elim
    | ok fl => cases fl with
      | ret u => exact hq
      | next => exact False.elim hq
      | brk => exact False.elim hq
      | cont => exact False.elim hq
end
/-! ### heaps behind a call -/
/-- new objects may be anything -/
theorem un_late {fs : List Addr} {P : Program} {w : World} {H0 H1 H3 : Hp} {h0 h1 h3 : Heap} (u : Un fs [] H0 H1 h0 h1) (ok : HOk P w H0 h0) (same : ∀ b, b < h0.objs.size → H3 b = H1 b ∧ ∀ o, h1.get? b = some o → h3.get? b = some o) : Un fs [] H0 H3 h0 h3 where
  keep := fun b o e n hb hx => (same b (Heap.lt_size e)).2 _ (u.keep b o e n hb hx)
  slot := fun b o e n hb hx => by
    obtain ⟨sl, q⟩ := u.slot b o e n hb hx
    exact ⟨sl, (same b (Heap.lt_size e)).2 _ q⟩
  free := fun b o e n hx => by rw [(same b (Heap.lt_size e)).1]; exact u.free b o e n hx
  there := fun b o e hx => by
    obtain ⟨o', q⟩ := u.there b o e hx
    exact ⟨o', (same b (Heap.lt_size e)).2 _ q⟩
  tups := fun b xs e => by rw [(same b (ok.lt e)).1]; exact u.tups b xs e
  frzs := fun b o xs e => by rw [(same b (ok.lt e)).1]; exact u.frzs b o xs e
  tbls := fun b ps e => by rw [(same b (ok.lt e)).1]; exact u.tbls b ps e
/-- tables and their code objects stand elsewhere -/
theorem tabs_same {T : Tb} {H H' : Hp} (t : Tabs T H) (same : ∀ b o, H b = some o → (∀ xs, o ≠ .lst xs) → (∀ q z, o ≠ .frz q z) → H' b = some o) : Tabs T H' := fun p hp => by
  obtain ⟨ps, h1, h2, h3⟩ := t p hp
  refine ⟨ps, same _ _ h1 (fun xs z => by cases z) (fun q z e => by cases e), h2, fun pos cv hc => ?_⟩
  obtain ⟨c, e1, e2⟩ := h3 pos cv hc
  exact ⟨c, e1, same _ _ e2 (fun xs z => by unfold CodeO at z; cases z) fun q z e => by unfold CodeO at e; cases e⟩
theorem valE_gt (env : En) (i : Nat) : En.gt (valE env) i = valS (env.gt i) := by
  unfold valE En.gt
  rw [List.getD_eq_getElem?_getD, List.getD_eq_getElem?_getD, List.getElem?_map]
  cases env[i]? <;> rfl
theorem valS_isL (s : Slot) : isL (valS s) = false := by cases s <;> rfl
theorem valE_len (env : En) : (valE env).length = env.length := by unfold valE; rw [List.length_map]
section
variable {K : PySem.W.Frag} {T : Tb} {σ : St} {Z H : Hp} {env : En}
theorem re_val (r : RE K T Z H env σ) : RE K T Z H (valE env) σ := by
  refine ⟨by rw [valE_len]; exact r.len, fun i => ?_, fun i j a hi _ _ _ => ?_, r.ex, r.tb, r.pt⟩
  · rw [valE_gt]
    have q := r.sl i
    cases e : env.gt i with
    | val d => rw [e] at q; exact q
    | _ => trivial
  · rw [valE_gt, valS_isL] at hi
    cases hi
theorem re_key (r : RE K T Z H (valE env) σ) {i : Nat} {v : V} {d : PyData} (hi : i < env.length) (h : Dp K Z v d) : RE K T Z H ((valE env).set i (.val d)) (σ.set i (some v)) := by
  have hi' : i < (valE env).length := by rw [valE_len]; exact hi
  have hs : i < σ.length := by rw [← r.len]; exact hi'
  have nl : ∀ j, isL (En.gt ((valE env).set i (.val d)) j) = false := fun j => by
    rw [gt_set]
    split
    · rfl
    · rw [valE_gt, valS_isL]
  refine ⟨by rw [List.length_set, List.length_set]; exact r.len, fun j => ?_, fun j l a hj _ _ _ => ?_, r.ex, r.tb, r.pt⟩
  · by_cases c : i = j
    · subst c
      rw [gt_set_same hi', sg_set_same hs]
      exact ⟨v, rfl, h⟩
    · rw [gt_set_ne c, sg_set_ne c]
      exact r.sl j
  · rw [nl] at hj
    cases hj
end
/-! ### the keys -/
/-- behind i keys: the list at a is empty, its items wait; the keys' list is at kS -/
def KSt (X : Cx) (T : Tb) (σ : St) (env : En) (Z H0 : Hp) (s0 : Shared) (a kS : Addr) (oa : Obj) (ks : List PyData) (i : Nat) (s' : Shared) : Prop :=
  ∃ (Zj Hj : Hp) (kvs : List V), s'.os = s0.os ∧ AllBare s'.gens ∧ Un (frs X.stack) [] H0 Hj s0.heap s'.heap ∧ HOk X.prog X.w Hj s'.heap ∧ (∀ b o, H0 b = some o → NTb o → Hj b = some o) ∧ (∀ b, H0 b ≠ none → Hj b ≠ none) ∧
    RE X.K T Zj Hj (valE env) σ ∧ Ex Z Zj ∧ Zj a = none ∧ Zj kS = none ∧ Hj a = some (.frz oa (.lst [])) ∧ Hj kS = some (.lst kvs) ∧ DpAll X.K Zj kvs (ks.take i)
section
variable {X : Cx} {pins : List (Addr × Obj)} {σ : St} {Z H0 : Hp} {s0 : Shared} {T : Tb} {env : En} {a kS : Addr} {oa : Obj} {ks : List PyData}
theorem no_own_val (env : En) (σ : St) (i : Nat) (d : PyData) (b : Addr) : ¬ OwnAt ((valE env).set i (.val d)) σ b ∧ ¬ IoAt ((valE env).set i (.val d)) σ b := by
  have nl : ∀ j, isL (En.gt ((valE env).set i (.val d)) j) = false := fun j => by
    rw [gt_set]
    split
    · rfl
    · rw [valE_gt, valS_isL]
  refine ⟨fun ⟨j, h, _⟩ => ?_, fun ⟨j, h, _⟩ => ?_⟩
  · have := nl j
    unfold isL at this
    rw [h] at this
    cases this
  · have := nl j
    unfold isL at this
    rw [h] at this
    simp at this
/-- the state of a call among the keys -/
theorem KSt.inv (I0 : Inv X pins σ H0 s0) {i : Nat} {s' : Shared} (h : KSt X T σ env Z H0 s0 a kS oa ks i s') : ∃ Hj Zj kvs, Inv X pins σ Hj s' ∧ Un (frs X.stack) [] H0 Hj s0.heap s'.heap ∧ (∀ b o, H0 b = some o → NTb o → Hj b = some o) ∧ (∀ b, H0 b ≠ none → Hj b ≠ none) ∧
    RE X.K T Zj Hj (valE env) σ ∧ Ex Z Zj ∧ Zj a = none ∧ Zj kS = none ∧ Hj a = some (.frz oa (.lst [])) ∧ Hj kS = some (.lst kvs) ∧ DpAll X.K Zj kvs (ks.take i) := by
  obtain ⟨Zj, Hj, kvs, h1, h2, h3, h4, h5, h6, h7⟩ := h
  obtain ⟨hh, g, d, t, os'⟩ := s'
  obtain rfl : os' = s0.os := h1
  exact ⟨Hj, Zj, kvs, I0.call (h' := hh) (g' := g) (d' := d) (t' := t) (ch := []) h3 h4 h2 (fun b z => absurd z (by simp)), h3, h5, h6, h7⟩
/-- a key is laid behind the others -/
theorem KSt.more (I0 : Inv X pins σ H0 s0) {j i : Nat} {s' s1 : Shared} {Hj Zj H1 Z1 : Hp} {kvs : List V} {v' : V} {d k : PyData} {e1 : En} {σ' : St} {g : Heap} (hkS : s0.heap.objs.size ≤ kS)
    (os : s1.os = s0.os) (bare : AllBare s1.gens) (un : Un (frs X.stack) [] H0 Hj s0.heap s'.heap) (un1 : Un (frs X.stack) [] Hj H1 s'.heap s1.heap) (hok : HOk X.prog X.w H1 s1.heap)
    (kp : ∀ b o, H0 b = some o → NTb o → Hj b = some o) (dm : ∀ b, H0 b ≠ none → Hj b ≠ none) (re : RE X.K T Zj Hj (valE env) σ) (ez : Ex Z Zj) (za : Zj a = none) (zk : Zj kS = none) (ha : Hj a = some (.frz oa (.lst []))) (hk : Hj kS = some (.lst kvs)) (dk : DpAll X.K Zj kvs (ks.take j))
    (hkj : ks[j]? = some k) (st : Stp X.K T σ' Zj Hj ((valE env).set i (.val d)) Z1 H1 e1) (dp : Dp X.K Z1 v' k) (hg : ∀ b o, b ≠ kS → s1.heap.get? b = some o → g.get? b = some o) (hlen : (kvs ++ [v']).length ≤ sizeLine)
    (hgk : ∃ its n, Vals (kvs ++ [v']) its ∧ g.get? kS = some { cls := .type "list", data := .seq its.toArray n }) :
    KSt X T σ env Z H0 s0 a kS oa ks (j + 1) { s1 with heap := g } := by
  have own := fun b => no_own_val env σ' i d b
  have kp1 : ∀ b o, Hj b = some o → NTb o → H1 b = some o := fun b o e n => st.mv.kp b o e (own b).1 (own b).2 n
  have hk1 : H1 kS = some (.lst kvs) := kp1 _ _ hk ntb_lst
  have ha1 : H1 a = some (.frz oa (.lst [])) := kp1 _ _ ha ntb_frz
  have hak : a ≠ kS := fun z => by rw [z, hk] at ha; cases ha
  have z1 : ∀ b, Zj b = none → Hj b ≠ none → Z1 b = none := fun b e1 e2 => by
    cases q : Z1 b with
    | none => rfl
    | some o =>
      rcases st.mv.gr b (by rw [q]; simp) with z | z | z
      · exact absurd e1 z
      · exact absurd z e2
      · exact absurd z (own b).1
  have zk1 : Z1 kS = none := z1 _ zk (by rw [hk]; simp)
  have h0k : H0 kS = none := I0.hok.fresh hkS
  have t3 : Tabs T (upd H1 kS (.lst (kvs ++ [v']))) := tabs_same st.re.tb fun b o e n1 _ => by
    rw [upd_ne (fun z => by rw [z, hk1] at e; cases e; exact n1 _ rfl)]
    exact e
  have un2 := un.trans un1
  refine ⟨Z1, upd H1 kS (.lst (kvs ++ [v'])), kvs ++ [v'], os, bare, un_late un2 I0.hok fun b hb => ?_, ?_, fun b o e n => ?_, fun b e => ?_, ?_, ez.trans st.mv.ez, z1 _ za (by rw [ha]; simp), zk1, ?_, upd_same, ?_⟩
  · have hb2 : b ≠ kS := fun z => by rw [z] at hb; exact absurd hb (Nat.not_lt.mpr hkS)
    exact ⟨upd_ne hb2, fun o e => hg b o hb2 e⟩
  · obtain ⟨its, n, hv, hn⟩ := hgk
    exact hok.write (e := kS) (by rw [hk1]; trivial) (.inl rfl) hg ⟨_, hn⟩ ⟨hlen, its, n, hv, hn⟩
  · have hb : b ≠ kS := ne_of_none e h0k
    rw [upd_ne hb]
    exact kp1 _ _ (kp _ _ e n) n
  · have hb : b ≠ kS := fun z => e (z ▸ h0k)
    rw [upd_ne hb]
    exact st.mv.dm b (dm b e)
  · exact re.mono st.mv.ez (st.re.ex.set zk1) t3 (fun l a us hl _ _ => by rw [valE_gt, valS_isL] at hl; cases hl) st.re.pt
  · rw [upd_ne hak]
    exact ha1
  · rw [List.take_add_one, hkj]
    exact dpa_app (dpa_mono st.mv.ez _ dk) (.cons dp .nil)
end
end PL

/-! part PLKey2 -/
set_option Elab.async false
set_option linter.all false
set_option autoImplicit false
set_option maxRecDepth 100000
set_option maxHeartbeats 4000000
/-! list.sort by a lambda's keys -/
namespace PL
open PySem PySem.Spec PyProof.Rows L2 LamX
section
variable {X : Cx} {pins : List (Addr × Obj)} {σ : St} {Z H0 : Hp} {s0 : Shared} {T : Tb} {env : En} {a kS : Addr} {oa : Obj} {ks xs : List PyData}
/-- behind the call for a key, which is still to be kept -/
def KMore (X : Cx) (T : Tb) (σ : St) (env : En) (Z H0 : Hp) (s0 : Shared) (a kS : Addr) (oa : Obj) (ks : List PyData) (j : Nat) (kv : Value) (s1 : Shared) : Prop :=
  ∃ (its : List Value) (n : Nat), s1.heap.get? kS = some (seqObj "list" its.toArray n) ∧ its.length = j ∧
    ∀ g : Heap, (∀ b o, b ≠ kS → s1.heap.get? b = some o → g.get? b = some o) → (∃ n', g.get? kS = some (seqObj "list" (its ++ [kv]).toArray n')) → KSt X T σ env Z H0 s0 a kS oa ks (j + 1) { s1 with heap := g }
theorem keys_loop {A : Around} {E : Value → Shared → Prop} {P : PySem.Fin → Shared → Prop} {its : List Value} {f : Addr} {e1 : Nat} {s : Shared} (hz : its.length ≤ sizeLine)
    (st : KSt X T σ env Z H0 s0 a kS oa ks 0 s)
    (turn : ∀ (j : Nat) (u : Value) (s' : Shared), KSt X T σ env Z H0 s0 a kS oa ks j s' → its[j]? = some u → wpAny (model X.prog X.w) A (call (.ref f) [u]) (KMore X T σ env Z H0 s0 a kS oa ks j) (fun _ _ => False) s')
    (I0 : Inv X pins σ H0 s0) (fin : ∀ (s' : Shared) (kA : Array Value) (n : Nat), KSt X T σ env Z H0 s0 a kS oa ks its.length s' → s'.heap.get? kS = some (seqObj "list" kA n) → wpAny (model X.prog X.w) A (ksk_end a false its.toArray e1 (.ref kS) kA) P E s') :
    wpAny (model X.prog X.w) A (ksk_rest a (.ref f) false its.toArray e1 (.ref kS)) P E s := by
  unfold ksk_rest
  refine wpAny_bind (wpAny_rule ?_)
  first
    | rw [List.forIn_toArray]
    | (rw [← Array.forIn_toList]; simp only [List.toList_toArray])
    | rw [← Array.forIn_toList]
  refine wpAny_bind (ksk_fold (fun j s' => KSt X T σ env Z H0 s0 a kS oa ks j s') its 0 s st (fun j u s' hu hK => ?_) fun s' hK => ?_)
  · simp only [Nat.zero_add] at hK ⊢
    have hj : j < its.length := (List.getElem?_eq_some_iff.mp hu).1
    refine wpAny_bind (wpAny_attempt (wpAny_mono (turn j u s' hK hu) (fun kv s1 hm => ?_) fun _ _ hF => hF.elim))
    obtain ⟨itsK, n, gk, hl, nxt⟩ := hm
    dsimp only
    have sz : itsK.toArray.size ≤ sizeLine := by rw [List.size_toArray]; omega
    have sz2 : (itsK.toArray.push kv).size ≤ sizeLine + 1 := by rw [Array.size_push, List.size_toArray]; omega
    refine wpAny_bind (listUpdate_at gk rfl ?_ sz sz2)
    have same := Heap.SameBut.update s1.heap kS (Obj.mapSeq (·.push kv))
    have at_ := get?_update_seq gk (·.push kv)
    rw [List.push_toArray] at at_
    exact wpAny_pure ⟨rfl, nxt _ (fun b o hb e => (same.2 b hb).trans e) ⟨_, at_⟩⟩
  · simp only [Nat.zero_add] at hK
    obtain ⟨Hj, Zj, kvs, I, un, kp, dm, re, ez, za, zk, ha, hk, dk⟩ := hK.inv I0
    obtain ⟨hzk, itsK, nK, vK, gK⟩ := I.hok kS _ hk
    try dsimp only
    exact wpAny_bind (listItems_at gK rfl (fin s' _ _ hK gK))
theorem each_zip {K : PySem.W.Frag} {Z : Hp} : ∀ {us : List V} {its : List Value} {xs ks : List PyData}, Vals us its → DpAll K Z us xs → ks.length = xs.length → W.EachIs (fun v (b : PyData × PyData) => ∃ u, RelV u v ∧ Dp K Z u b.1) its (xs.zip ks)
  | _, _, _, [], .nil, .nil, _ => .nil
  | _, _, _, k :: ks, .cons r rs, .cons d dd, h => .cons ⟨_, r, d⟩ (each_zip rs dd (by simpa using h))
  | _, _, _, _ :: _, .nil, .nil, h => by simp at h
  | _, _, _, [], .cons _ _, .cons _ _, h => by simp at h
theorem each_out {K : PySem.W.Frag} {Z : Hp} : ∀ {its : List Value} {bs : List (PyData × PyData)}, W.EachIs (fun v (b : PyData × PyData) => ∃ u, RelV u v ∧ Dp K Z u b.1) its bs → ∃ us, Vals us its ∧ DpAll K Z us (bs.map (·.1))
  | _, _, .nil => ⟨[], .nil, .nil⟩
  | _, _, .cons ⟨u, r, d⟩ t => by
    obtain ⟨us, rs, dd⟩ := each_out t
    exact ⟨u :: us, .cons r rs, .cons d dd⟩
theorem zip_snd {α β : Type} : ∀ {xs : List α} {ks : List β}, ks.length = xs.length → (xs.zip ks).map (·.2) = ks
  | [], [], _ => rfl
  | x :: xs, k :: ks, h => by
    rw [List.zip_cons_cons, List.map_cons, zip_snd (by simpa using h)]
  | [], _ :: _, h => by simp at h
  | _ :: _, [], h => by simp at h
/-- the keys' list forgotten, the items at a -/
def cutHp (kS a : Addr) (us : List V) (H : Hp) : Hp := fun c => if c = kS then none else upd H a (.lst us) c
/-- the last step: the items take their places -/
theorem keys_end {A : Around} {E : Value → Shared → Prop} {P : PySem.Fin → Shared → Prop} {its : List Value} {us : List V} {e1 n : Nat} {kA : Array Value} {s' : Shared} (I0 : Inv X pins σ H0 s0) (hka : kS ≠ a) (hlo : s0.heap.objs.size ≤ a) (hkS : s0.heap.objs.size ≤ kS)
    (rv : Vals us its) (da : DpAll X.K Z us xs) (hl : ks.length = xs.length) (hz : its.length ≤ sizeLine) (hal : W.AllAlike ks) (hsk : Srt ks) (hu : ∀ d ∈ ks, A.units + d.depth < cLine)
    (hK : KSt X T σ env Z H0 s0 a kS (seqObj "list" #[] e1) ks its.length s') (gk : s'.heap.get? kS = some (seqObj "list" kA n))
    (h : ∀ s1 H' us', Inv X pins σ H' s1 → (∀ b o, H0 b = some o → NTb o → H' b = some o) → (∀ b, H0 b ≠ none → H' b ≠ none) → Tabs T H' → H' a = some (.lst us') → DpAll X.K Z us' (sortKD xs ks) → P (.done (.ret .none)) s1) :
    wpAny (model X.prog X.w) A (ksk_end a false its.toArray e1 (.ref kS) kA) P E s' := by
  have hlx : its.length = xs.length := by rw [← rv.length]; exact dpa_len da
  obtain ⟨hh, gg, dd, tt, oo⟩ := s'
  obtain ⟨Zj, Hj, kvs, h1, h2, un, hok, kp, dm, re, ez, za, zk, ha, hk, dk⟩ := hK
  obtain rfl : oo = s0.os := h1
  have I : Inv X pins σ Hj ⟨hh, gg, dd, tt, s0.os⟩ := I0.call (h' := hh) (g' := gg) (d' := dd) (t' := tt) (ch := []) un hok h2 (fun b z => absurd z (by simp))
  rw [List.take_of_length_le (by omega)] at dk
  obtain ⟨hzk, itsK, nK, vK, gK⟩ := hok kS _ hk
  have eK : kA = itsK.toArray := by
    rw [gk] at gK
    have := congrArg (fun o : Option Obj => o.map Obj.data) gK
    simp only [Option.map_some, Option.some.injEq] at this
    injection this
  have na : hh.get? a = some (seqObj "list" #[] e1) := (hok a _ ha).1
  have er : W.EachIs (fun v d => ∃ as, Reads hh v d as) itsK ks := (each_rel vK dk).mono fun v d ⟨u, r, q⟩ => Dp.reads I d u v (dp_mono re.ex d q) r
  have lenK : itsK.length = its.length := by rw [er.length, hl, hlx]
  have S := sortsAt_any (prog := X.prog) (w := X.w) (A := A) (s := ⟨hh, gg, dd, tt, s0.os⟩) er hal hsk hu
  subst eK
  refine W.keyH_end (κ := W.dataKind hh ks) (h₁ := W.hideAll hh [kS]) (fun b o _ e => W.of_hideAll _ e) (W.hideAll_none _ (by simp)) gk na hka (by simpa using S) (by rw [List.size_toArray, lenK]) hz fun h' tk c keep hat => ?_
  have keepH : ∀ b o, b ≠ a → b ≠ kS → hh.get? b = some o → h'.get? b = some o := fun b o n1 n2 e => keep b o n1 (W.hideAll_get _ e (by simpa using n2))
  have ko : W.KeyedOut false ((xs.zip ks).map (·.2)) its (W.sortVals (W.dataKind hh ks) false itsK.toArray.toList its) := by
    rw [zip_snd hl]
    exact ⟨hh, itsK, hal, by simp, er⟩
  have eo := W.keyedOut_each (fun b : PyData × PyData => b.2) ko (each_zip rv da hl)
  obtain ⟨us', v', d'⟩ := each_out eo
  have hol : us'.length ≤ sizeLine := by
    rw [v'.length, ko.length (by rw [zip_snd hl, hl, hlx])]
    exact hz
  have nA : ∀ b o, Hj b = some o → (∀ q z, o ≠ .frz q z) → b ≠ a := fun b o e n z => by rw [z, ha] at e; cases e; exact n _ _ rfl
  have nK' : ∀ b o, Hj b = some o → (∀ z, o ≠ .lst z) → b ≠ kS := fun b o e n z => by rw [z, hk] at e; cases e; exact n _ rfl
  have at_ : ∀ b, b ≠ a → b ≠ kS → cutHp kS a us' Hj b = Hj b := fun b n1 n2 => by
    unfold cutHp
    rw [if_neg n2, upd_ne n1]
  have ata : cutHp kS a us' Hj a = some (.lst us') := by
    unfold cutHp
    rw [if_neg (Ne.symm hka), upd_same]
  have low : ∀ b, b < s0.heap.objs.size → b ≠ a ∧ b ≠ kS := fun b hb => ⟨Nat.ne_of_lt (Nat.lt_of_lt_of_le hb hlo), Nat.ne_of_lt (Nat.lt_of_lt_of_le hb hkS)⟩
  refine h ⟨h', gg, dd, tk, s0.os⟩ (cutHp kS a us' Hj) us' (I0.call (h' := h') (g' := gg) (d' := dd) (t' := tk) (ch := []) (un_late un I0.hok fun b hb => ?_) (fun b u e => ?_) h2 (fun b z => absurd z (by simp))) (fun b o e n => ?_) (fun b e => ?_) ?_ ata d'
  · obtain ⟨n1, n2⟩ := low b hb
    exact ⟨at_ b n1 n2, fun o e => keepH b o n1 n2 e⟩
  · by_cases hb : b = a
    · subst hb
      rw [ata] at e
      cases e
      exact ⟨hol, _, c, v', hat⟩
    · have hb2 : b ≠ kS := fun z => by
        rw [z] at e
        unfold cutHp at e
        rw [if_pos rfl] at e
        cases e
      rw [at_ b hb hb2] at e
      refine (hok b u e).stay (fun c v hc q => ?_) (fun c q => ?_) fun c zs q => ?_
      · rcases hc with z | z
        · exact keepH c v (z ▸ hb) (z ▸ hb2) q
        · exact keepH c v (nA _ _ z fun _ _ w => by cases w) (nK' _ _ z fun _ w => by cases w) q
      · rw [at_ c (nA _ _ q fun _ _ w => by cases w) (nK' _ _ q fun _ w => by cases w)]
        exact q
      · rw [at_ c (nA _ _ q fun _ _ w => by cases w) (nK' _ _ q fun _ w => by cases w)]
        exact q
  · obtain ⟨n1, n2⟩ := low b (I0.hok.lt e)
    rw [at_ b n1 n2]
    exact kp b o e n
  · cases q : H0 b with
    | none => exact absurd q e
    | some o =>
      obtain ⟨n1, n2⟩ := low b (I0.hok.lt q)
      rw [at_ b n1 n2]
      exact dm b e
  · refine tabs_same re.tb fun b o e n1 n2 => ?_
    rw [at_ b (nA b o e n2) (nK' b o e n1)]
    exact e
/-- the whole of list.sort -/
theorem sortK_list {A : Around} {E : Value → Shared → Prop} {P : PySem.Fin → Shared → Prop} {its : List Value} {us : List V} {f : Addr} {n tk : Nat} {hh : Heap} (I0 : Inv X pins σ H0 s0) (r0 : RE X.K T Z H0 env σ) (keep : ∀ b o, s0.heap.get? b = some o → hh.get? b = some o) (hlo : s0.heap.objs.size ≤ a)
    (ho : hh.get? a = some (seqObj "list" its.toArray n)) (rv : Vals us its) (da : DpAll X.K Z us xs) (hl : ks.length = xs.length) (hz : its.length ≤ sizeLine) (hal : W.AllAlike ks) (hsk : Srt ks) (hu : ∀ d ∈ ks, A.units + d.depth < cLine)
    (turn : ∀ (kS : Addr) (oa : Obj) (j : Nat) (u : Value) (s' : Shared), s0.heap.objs.size ≤ kS → KSt X T σ env Z H0 s0 a kS oa ks j s' → its[j]? = some u → wpAny (model X.prog X.w) A (call (.ref f) [u]) (KMore X T σ env Z H0 s0 a kS oa ks j) (fun _ _ => False) s')
    (h : ∀ s1 H' us', Inv X pins σ H' s1 → (∀ b o, H0 b = some o → NTb o → H' b = some o) → (∀ b, H0 b ≠ none → H' b ≠ none) → Tabs T H' → H' a = some (.lst us') → DpAll X.K Z us' (sortKD xs ks) → P (.done (.ret .none)) s1) :
    wpAny (model X.prog X.w) A (ksk_tree a (.ref f) false) P E { s0 with heap := hh, toks := tk } := by
  unfold ksk_tree
  refine wpAny_bind (listItems_at ho rfl ?_)
  refine wpAny_bind (listUpdate_at ho rfl ?_ (by rw [List.size_toArray]; exact hz) (Nat.zero_le _))
  obtain ⟨e1, ho1⟩ : ∃ e1, (hh.update a (Obj.mapSeq fun _ => #[])).get? a = some (seqObj "list" #[] e1) := ⟨_, get?_update_seq ho fun _ => #[]⟩
  refine wpAny_bind (seqEpoch_at ho1 rfl ?_)
  refine wpAny_bind (wpAny_newTuple ?_ (by show its.length ≤ _; exact hz))
  refine wpAny_bind (wpAny_newList ?_ (Nat.zero_le _))
  refine wpAny_holding ?_
  have sz1 : (hh.update a (Obj.mapSeq fun _ => #[])).objs.size = hh.objs.size := Heap.size_update ..
  have alt : a < hh.objs.size := Heap.lt_size ho
  have big : s0.heap.objs.size ≤ hh.objs.size := Nat.le_trans hlo (Nat.le_of_lt alt)
  generalize hg : ((hh.update a (Obj.mapSeq fun _ => #[])).push (seqObj "tuple" its.toArray 0)) = g1
  have sg : g1.objs.size = hh.objs.size + 1 := by rw [← hg, size_push', sz1]
  have hka : g1.objs.size ≠ a := Nat.ne_of_gt (by rw [sg]; exact Nat.lt_succ_of_lt alt)
  have bigk : s0.heap.objs.size ≤ g1.objs.size := by rw [sg]; exact Nat.le_succ_of_le big
  have old : ∀ b o, b ≠ a → hh.get? b = some o → (g1.push (seqObj "list" #[] 0)).get? b = some o := fun b o hb e => by
    rw [← hg]
    exact Heap.get?_push_of_some _ (Heap.get?_push_of_some _ ((Heap.get?_update_ne _ _ _ _ hb).trans e))
  have ha2 : (g1.push (seqObj "list" #[] 0)).get? a = some (seqObj "list" #[] e1) := by
    rw [← hg]
    exact Heap.get?_push_of_some _ (Heap.get?_push_of_some _ ho1)
  have hk2 : (g1.push (seqObj "list" #[] 0)).get? g1.objs.size = some (seqObj "list" #[] 0) := Heap.get?_push_size _ rfl
  have low : ∀ b, b < s0.heap.objs.size → b ≠ a ∧ b ≠ g1.objs.size := fun b hb => ⟨Nat.ne_of_lt (Nat.lt_of_lt_of_le hb hlo), Nat.ne_of_lt (Nat.lt_of_lt_of_le hb bigk)⟩
  have keep2 : ∀ b o, s0.heap.get? b = some o → (g1.push (seqObj "list" #[] 0)).get? b = some o := fun b o e => old b o (low b (Heap.lt_size e)).1 (keep b o e)
  have h0a : H0 a = none := I0.hok.fresh hlo
  have h0k : H0 g1.objs.size = none := I0.hok.fresh bigk
  have at_ : ∀ b, b ≠ a → b ≠ g1.objs.size → upd (upd H0 a (.frz (seqObj "list" #[] e1) (.lst []))) g1.objs.size (.lst []) b = H0 b := fun b n1 n2 => by rw [upd_ne n2, upd_ne n1]
  have st0 : KSt X T σ env Z H0 s0 a g1.objs.size (seqObj "list" #[] e1) ks 0 { s0 with heap := g1.push (seqObj "list" #[] 0), toks := tk } := by
    have z0 : ∀ b, H0 b = none → Z b = none := fun b e => r0.ex.free e
    have exz : Ex Z (upd (upd H0 a (.frz (seqObj "list" #[] e1) (.lst []))) g1.objs.size (.lst [])) := (r0.ex.set (z0 _ h0a)).set (z0 _ h0k)
    refine ⟨Z, upd (upd H0 a (.frz (seqObj "list" #[] e1) (.lst []))) g1.objs.size (.lst []), [], rfl, I0.bare, un_late (Un.refl (h := s0.heap)) I0.hok (fun b hb => ⟨at_ b (low b hb).1 (low b hb).2, keep2 b⟩), fun b u e => ?_, fun b o e _ => ?_, fun b e => ?_, ?_, Ex.refl _, z0 _ h0a, z0 _ h0k, ?_, upd_same, .nil⟩
    · by_cases hb : b = g1.objs.size
      · subst hb
        rw [upd_same] at e
        cases e
        exact ⟨Nat.zero_le _, [], 0, .nil, hk2⟩
      · by_cases hb2 : b = a
        · subst hb2
          rw [upd_ne hb, upd_same] at e
          cases e
          exact ⟨ha2, Nat.zero_le _, [], e1, .nil, ha2⟩
        · rw [at_ b hb2 hb] at e
          exact (I0.hok b u e).stay (fun c v _ q => keep2 c v q) (fun c q => by rw [at_ c (ne_of_none q h0a) (ne_of_none q h0k)]; exact q) fun c zs q => by rw [at_ c (ne_of_none q h0a) (ne_of_none q h0k)]; exact q
    · rw [at_ b (ne_of_none e h0a) (ne_of_none e h0k)]
      exact e
    · rw [at_ b (fun z => e (z ▸ h0a)) fun z => e (z ▸ h0k)]
      exact e
    · exact (re_val r0).mono (Ex.refl _) exz (r0.tb.ext fun b o e => by rw [at_ b (ne_of_none e h0a) (ne_of_none e h0k)]; exact e) (fun i b us hl _ _ => by rw [valE_gt, valS_isL] at hl; cases hl) r0.pt
    · rw [upd_ne hka.symm, upd_same]
  refine keys_loop hz st0 (fun j u s' hK hu => turn _ _ j u s' bigk hK hu) I0 fun s' kA n hK gk => ?_
  exact keys_end I0 hka hlo bigk rv da hl hz hal hsk hu hK gk h
end
end PL

/-! part PLKey3 -/
set_option Elab.async false
set_option linter.all false
set_option autoImplicit false
set_option maxRecDepth 100000
set_option maxHeartbeats 4000000
/-! sorted(.., key=lambda x: ..) -/
namespace PL
open PySem PySem.Spec PyProof.Rows L2 LamX
/-! ### what is gone through -/
/-- a list, a tuple or a range whose items are xs -/
def Gsrc (K : PySem.W.Frag) (Z H : Hp) (u : V) (xs : List PyData) : Prop := (∃ d, Sh K Z H u d ∧ seqOf d = some xs) ∨ ∃ a lo hi, u = .ref a ∧ H a = some (.rng lo hi) ∧ smallI lo = true ∧ smallI hi = true ∧ xs = rngD lo (hi - lo).toNat
theorem Gsrc.mono {K : PySem.W.Frag} {Z H H1 : Hp} {u : V} {xs : List PyData} (h : Gsrc K Z H u xs) (e : ∀ b o, H b = some o → NTb o → H1 b = some o) : Gsrc K Z H1 u xs := by
  rcases h with ⟨d, h1, h2⟩ | ⟨a, lo, hi, h1, h2, h3⟩
  · refine .inl ⟨d, ?_, h2⟩
    cases d with
    | list ds =>
      obtain ⟨a, us, rfl, hs, da⟩ := h1
      refine ⟨a, us, rfl, ?_, da⟩
      rcases hs with (hs | ⟨o, hs⟩) | hs
      · exact .inl (.inl (e _ _ hs ntb_lst))
      · exact .inl (.inr ⟨o, e _ _ hs ntb_frz⟩)
      · exact .inr hs
    | _ => exact h1
  · exact .inr ⟨a, lo, hi, h1, e _ _ h2 (fun _ z => by cases z), h3⟩
/-- the items gathered -/
def Gath (X : Cx) (us : List V) (v : Value) (s : Shared) : Prop := ∀ (A : Around) (E : Value → Shared → Prop) (Q : List Value → Shared → Prop), A.handled = none →
  (∀ (h' : Heap) (tk : Nat) (its : List Value), (∀ b o, s.heap.get? b = some o → h'.get? b = some o) → Vals us its → Q its { s with heap := h', toks := tk }) → wpAny (model X.prog X.w) A (collect v) Q E s
section
variable {X : Cx} {pins : List (Addr × Obj)} {σ : St} {Z H : Hp} {s : Shared}
theorem src_gath (I : Inv X pins σ H s) (ez : Ex Z H) {u : V} {v : Value} {xs : List PyData} (sr : Gsrc X.K Z H u xs) (r : RelV u v) (hz : szOk xs.length = true) : ∃ us, DpAll X.K Z us xs ∧ Gath X us v s := by
  have hz := szOk_of hz
  rcases sr with ⟨d, sh, e⟩ | ⟨a, lo, hi, rfl, hr, s1, s2, rfl⟩
  · cases d with
    | list ds =>
      cases e
      obtain ⟨a, us, its, as, rfl, rfl, hl, _, rv, da, _, hz1, hz2⟩ := sh_list I ez sh r
      obtain ⟨o, ho, hc, n, hd⟩ := hl
      refine ⟨us, da, fun A E Q _ q => PySem.wpAny_collect_seq a (.inl rfl) ho hc hd (fun h' k => ?_) (by rw [List.size_toArray]; omega)⟩
      have := q h' s.toks its k rv
      simpa using this
    | tuple ds =>
      cases e
      obtain ⟨a, us, its, as, rfl, rfl, hl, rv, da, _, hz1, hz2⟩ := sh_tup I ez sh r
      obtain ⟨o, ho, hc, n, hd⟩ := hl
      refine ⟨us, da, fun A E Q _ q => PySem.wpAny_collect_seq a (.inr rfl) ho hc hd (fun h' k => ?_) (by rw [List.size_toArray]; omega)⟩
      have := q h' s.toks its k rv
      simpa using this
    | _ => cases e
  · obtain ⟨b1, b2⟩ := small_of s1
    obtain ⟨b3, b4⟩ := small_of s2
    obtain ⟨t1, t2, t3, ho⟩ := I.hok a _ hr
    cases r
    have hl : (rngD lo (hi - lo).toNat).length = (hi - lo).toNat := by unfold rngD; rw [List.length_map, List.length_range]
    rw [hl, sizeLine_eq] at hz
    have da := dpa_rng (K := X.K) (Z := Z) lo hi
    refine ⟨_, da, fun A E Q hh q => collect_range (n := (hi - lo).toNat) hh (show IsRange s.heap a lo hi 1 t1 t2 t3 from ho) (small_one b1 b2 b3 b4) (rangeSize_nat lo hi) (by omega) fun h' tk acc k hi' => q h' tk acc.toList k (vals_rg hi')⟩
end
section
variable {X : Cx} {a : Expr} {ta tb : TE}
/-- range(n), known as a range -/
theorem pe_rng1 {p pos : Pos} (hg : Gl X "range") (hm : X.mg "range" = none) (ha : PE X a ta) (na : starEach [a] X.env = (false, eval a X.env) :: starEach [] X.env) :
    PE X (.Call (.Name "range" p) [a] [] pos) fun σ H Q => ta σ H fun x H1 => ∃ n, x = .int n ∧ ∀ q, H1 q = none → Q (.ref q) (upd H1 q (.rng 0 n)) := by
  refine ⟨fun pins s σ H Q I h => ?_⟩
  refine Call_ (ld_blt I hg hm boot_range (PyProof.Rows.callWith_type1 (one_arg ha I h (fun v s2 x H2 I2 r q => ?_) na) na))
  obtain ⟨n, rfl, q⟩ := q
  obtain ⟨t, rfl⟩ := r
  refine call_range_1 ⟨.ref s2.heap.objs.size, _, I2.laid (t' := s2.toks + 1 + 1) (fun b o e => Heap.get?_push_of_some _ e) (Nat.le_refl _) ?_, rfl, q _ (I2.hok.fresh (Nat.le_refl _))⟩
  exact ⟨_, t, _, Heap.get?_push_size _ rfl⟩
theorem pe_rng2 {b : Expr} {p pos : Pos} (hg : Gl X "range") (hm : X.mg "range" = none) (ha : PE X a ta) (hb : PE X b tb) (na : starEach [a, b] X.env = (false, eval a X.env) :: starEach [b] X.env) (nb : starEach [b] X.env = (false, eval b X.env) :: starEach [] X.env) (hp : (backTo pos (starEach [b] X.env)).any (·.1) = false) :
    PE X (.Call (.Name "range" p) [a, b] [] pos) fun σ H Q => ta σ H fun x H1 => tb σ H1 fun y H2 => ∃ i j, x = .int i ∧ y = .int j ∧ ∀ q, H2 q = none → Q (.ref q) (upd H2 q (.rng i j)) := by
  refine ⟨fun pins s σ H Q I h => ?_⟩
  refine Call_ (ld_blt I hg hm boot_range (PyProof.Rows.callWith_type1 (args_cons (thn (ha.run pins s σ H _ I h) fun v s1 ⟨x, H1, I1, r1, q1⟩ => one_arg hb I1 q1 (fun u s2 y H2 I2 r2 q => ?_) nb) na) na hp))
  obtain ⟨i, j, rfl, rfl, q⟩ := q
  obtain ⟨t, rfl⟩ := r1
  obtain ⟨t', rfl⟩ := r2
  refine call_range_2 ⟨.ref s2.heap.objs.size, _, I2.laid (t' := s2.toks + 1) (fun b o e => Heap.get?_push_of_some _ e) (Nat.le_refl _) ?_, rfl, q _ (I2.hok.fresh (Nat.le_refl _))⟩
  exact ⟨t, t', _, Heap.get?_push_size _ rfl⟩
end
/-- what is gone through, read -/
def tSrc (L : Lk) (K : PySem.W.Frag) (Ew : XK) (it : It) : TE := fun σ H Q => ∃ Z env, RE K L.T Z H env σ ∧ Post L K Ew σ Z H env (fun xs e1 Z1 H1 => ∀ u Z2 H2, Stp K L.T σ Z H env Z2 H2 e1 → Gsrc K Z2 H2 u xs → Q u H2) (evIt L.ft L.gl it env)
section
variable {L : Lk} {CX : CXT} {k : Nat} {Ew : XK} {N : List Str} {sc : Scope} {X : Cx} {K : PySem.W.Frag}
theorem src_seq {o : O} {a : Expr} (ha : PE X a (tO L X.K Ew o)) : PE X a (tSrc L X.K Ew (.seq o)) := peImp ha fun σ H Q q => by
  obtain ⟨Z, env, r0, h⟩ := q
  simp only [evIt] at h
  refine ⟨Z, env, r0, h.bind fun x e1 Z1 H1 s1 h1 u g => ?_⟩
  obtain ⟨Z2, s2, hd⟩ := Hold.of r0 s1 g
  obtain ⟨xs, e, hp⟩ := h1.lift
  obtain ⟨d, e2, e3⟩ := bindSome e
  exact hp Z2 H1 s2 u Z2 H1 s2 (.inl ⟨d, hd.sh s2.re e2, e3⟩)
theorem src_r1 (c : Cq L CX k Ew N sc X) {x : E} {a : Expr} {p pos : Pos} (g : isGl sc "range" = true) (ns : notStar a = true) (ha : PE X a (tE L X.K Ew x)) : PE X (.Call (.Name "range" p) [a] [] pos) (tSrc L X.K Ew (.r1 x)) :=
  peImp (pe_rng1 (gl_of (by rw [c.sc]; exact g)) (c.blt _ (blt_in (by decide))) ha (star_cons ns)) fun σ H Q q => by
    obtain ⟨Z, env, r0, h⟩ := q
    simp only [evIt] at h
    refine ⟨Z, env, r0, h.bind fun y e1 Z1 H1 s1 h1 u g => ?_⟩
    obtain ⟨xs, er, hp⟩ := h1.lift
    cases hy : y.d with
    | int j =>
      rw [hy] at er
      obtain ⟨hs, rfl⟩ := itesome (show (if smallI j = true then _ else none) = some xs from er)
      refine ⟨j, dp_intv g hy, fun q hq => ?_⟩
      have s2 := s1.trans (Stp.new (o := .rng 0 j) s1.re hq)
      exact hp _ _ s2 _ _ _ s2 (.inr ⟨q, 0, j, rfl, upd_same, by decide, hs, by simp⟩)
    | _ => rw [hy] at er; cases er
theorem src_r2 (c : Cq L CX k Ew N sc X) {x y : E} {a b : Expr} {p pos : Pos} (g : isGl sc "range" = true) (ns : notStar a = true) (ns2 : notStar b = true) (ha : PE X a (tE L X.K Ew x)) (hb : PE X b (tE L X.K Ew y)) : PE X (.Call (.Name "range" p) [a, b] [] pos) (tSrc L X.K Ew (.r2 x y)) :=
  peImp (pe_rng2 (gl_of (by rw [c.sc]; exact g)) (c.blt _ (blt_in (by decide))) ha hb (star_cons ns) (star_cons ns2) (star_any (by simp [ns2]))) fun σ H Q q => by
    obtain ⟨Z, env, r0, h⟩ := q
    simp only [evIt] at h
    refine ⟨Z, env, r0, h.bind fun u1 e1 Z1 H1 s1 h1 u g => ?_⟩
    obtain ⟨Z2, s2, du⟩ := s1.toV r0 g
    refine ⟨Z2, e1, s2.re, (h1.step s2).bind fun u2 e2 Z3 H3 s3 h3 v g3 => ?_⟩
    obtain ⟨xs, er, hp⟩ := h3.lift
    cases hx : u1.d with
    | int i =>
      cases hy : u2.d with
      | int j =>
        rw [hx, hy] at er
        obtain ⟨hs, rfl⟩ := itesome (show (if (smallI i && smallI j) = true then _ else none) = some xs from er)
        rw [Bool.and_eq_true] at hs
        refine ⟨i, j, dp_intv g hx, dp_intv g3 hy, fun q hq => ?_⟩
        have s4 := s3.trans (Stp.new (o := .rng i j) s3.re hq)
        exact hp _ _ s4 _ _ _ (s2.trans s4) (.inr ⟨q, i, j, rfl, upd_same, hs.1, hs.2, rfl⟩)
      | _ => rw [hx, hy] at er; cases er
    | _ => rw [hx] at er; cases er
end
/-! ### a key -/
theorem keysOf_at {f : En → Out RV} {i : Nat} {env : En} : ∀ {xs ks : List PyData}, keysOf f i env xs = some ks → ks.length = xs.length ∧ ∀ (j : Nat) (d : PyData), xs[j]? = some d → ∃ kd e1, ks[j]? = some kd ∧ f (env.set i (.val d)) = .ok (.v kd) e1
  | [], ks, h => by
    cases h
    exact ⟨rfl, fun j d e => by simp at e⟩
  | x :: xs, ks, h => by
    unfold keysOf at h
    split at h
    · rename_i d e1 q
      obtain ⟨ks', h1, rfl⟩ := optmap h
      obtain ⟨h2, h3⟩ := keysOf_at h1
      refine ⟨by rw [List.length_cons, List.length_cons, h2], fun j d' e => ?_⟩
      cases j with
      | zero =>
        simp at e
        subst e
        exact ⟨d, e1, rfl, q⟩
      | succ j => exact h3 j d' (by simpa using e)
    · cases h
section
variable {L : Lk} {X : Cx} {pins : List (Addr × Obj)} {σ : St} {Z H0 : Hp} {s0 : Shared} {env : En} {a kS : Addr} {oa : Obj} {ks xs : List PyData}
theorem room2 {k : Nat} {A : Around} (r : Room (k + 2) A) : Room (k + 1) A.in1.in1 :=
  ⟨r.hd, by have := r.dp; show A.depth + 3 * (k + 1) + 5 < _; omega, by have := r.un; show A.units + 1 + 1 + 16 * (k + 1) + 200 < _; omega⟩
theorem key_turn {k i j : Nat} {x : Str} {b : E} {f c' : Addr} {params : Arguments} {body : Expr} {scope : Scope} {pm ctv : Value} {A : Around} {u : Value} {us : List V} {its : List Value} {s' : Shared} (I0 : Inv X pins σ H0 s0) (hN : X.N.Nodup) (Lm : LamP X.env.scope scope x) (hi : X.N[i]? = some x)
    (hr : Room (k + 1) A) (e0 : ∀ {H : Hp} {s : Shared}, Inv X pins σ H s → Env0 X.prog X.w X.K X.mg X.base A X.stack s H)
    (hf : s0.heap.get? f = some (PySem.W.kla_obj "<lambda>" (X.env.qual ++ "<lambda>") params body scope (cloFrom X.env.cells scope.names []) pm c' ctv)) (hfn : H0 f = none) (hfr : f ∉ frs X.stack) (hc : H0 c' = some (CodeO c' (X.env.qual ++ "<lambda>")))
    (hbind : ∀ u, bindArgs (PySem.W.kla_fn "<lambda>" (X.env.qual ++ "<lambda>") params body scope (cloFrom X.env.cells scope.names []) pm (.ref c') ctv) ⟨[u], []⟩ = pure [(x, u)])
    (hbody : ∀ (s : Shared) (H : Hp), Room k (A.deeper (lamEnv X scope s.heap.objs.size f c')) → PE (lamCx X A X.stack s H (fun _ _ _ => False) scope f c') body (tE L X.K (fun _ _ _ => False) b))
    (hs : s0.heap.objs.size ≤ kS) (rv : Vals us its) (da : DpAll X.K Z us xs) (hks : keysOf (fun en => evE L.ft L.gl b en) i (valE env) xs = some ks) (hil : i < env.length) (hz : xs.length ≤ sizeLine)
    (hK : KSt X L.T σ env Z H0 s0 a kS oa ks j s') (hu : its[j]? = some u) : wpAny (model X.prog X.w) A (call (.ref f) [u]) (KMore X L.T σ env Z H0 s0 a kS oa ks j) (fun _ _ => False) s' := by
  obtain ⟨hkl, hkj⟩ := keysOf_at hks
  have os' : s'.os = s0.os := hK.elim fun _ ⟨_, _, h, _⟩ => h
  obtain ⟨Hj, Zj, kvs, I, un, kp, dm, re, ez, za, zk, ha, hk, dk⟩ := hK.inv I0
  have hj : j < its.length := (List.getElem?_eq_some_iff.mp hu).1
  have hux : us.length = xs.length := dpa_len da
  have hui : us.length = its.length := rv.length
  obtain ⟨v, hv, rvu⟩ : ∃ v, us[j]? = some v ∧ RelV v u := by
    cases q : us[j]? with
    | none => rw [List.getElem?_eq_none_iff] at q; omega
    | some v =>
      obtain ⟨u', e1, e2⟩ := rv.get q
      rw [hu] at e1
      cases e1
      exact ⟨v, rfl, e2⟩
  obtain ⟨d, hd, dv⟩ := dpa_atV j da hv
  obtain ⟨kd, e1, hkd, hev⟩ := hkj j d hd
  have hf' := un.keep f _ hf hfn hfr (by simp)
  have ht : tE L X.K (fun _ _ _ => False) b (σ.set i (some v)) Hj (fun w H1 => ∃ Z1 e1, Stp X.K L.T (σ.set i (some v)) Zj Hj ((valE env).set i (.val d)) Z1 H1 e1 ∧ Dp X.K Z1 w kd) := by
    refine ⟨Zj, (valE env).set i (.val d), re_key re hil (dp_mono ez _ dv), ?_⟩
    have hev' : evE L.ft L.gl b ((valE env).set i (.val d)) = .ok (.v kd) e1 := hev
    rw [hev']
    exact fun Z1 H1 st w g => ⟨Z1, e1, st, g⟩
  refine wpAny_mono (key_call I hN Lm hi hr (e0 I) hf' (kp _ _ hc (fun ps z => codeO_ne ps z)) (hbind u) (fun h => hbody s' Hj h) rvu ht) (fun kv s1 h => ?_) fun _ _ h => h
  obtain ⟨w, H1, os1, bare1, un1, hok1, rw1, Z1, e1', st, dp⟩ := h
  have hk1 : H1 kS = some (.lst kvs) := st.mv.kp kS _ hk (no_own_val env _ i d _).1 (no_own_val env _ i d _).2 ntb_lst
  obtain ⟨hzk, itsK, n, vK, gK⟩ := hok1 kS _ hk1
  have lk : kvs.length = j := by
    rw [dpa_len dk, List.length_take]
    omega
  refine ⟨itsK, n, gK, by rw [← vK.length]; exact lk, fun g hg hgk => ?_⟩
  obtain ⟨n', hn'⟩ := hgk
  exact KSt.more I0 hs (os1.trans os') bare1 un un1 hok1 kp dm re ez za zk ha hk dk hkd st dp hg (by rw [List.length_append]; simp; omega) ⟨itsK ++ [kv], n', vK.append (.cons rw1 .nil), hn'⟩
end
/-! ### the call of sorted -/
theorem bind_one {q x : Str} {ap : Pos} {body : Expr} {scope : Scope} {cl : List (Str × Addr)} {pm cv ctv u : Value} :
    bindArgs (PySem.W.kla_fn "<lambda>" q ⟨[], [⟨x, none, ap⟩], none, [], [], none, []⟩ body scope cl pm cv ctv) ⟨[u], []⟩ = pure [(x, u)] := by
  have e : (x == x) = true := by simp
  have l : ([(x, u)] : List (Str × Value)).lookup x = some u := by simp [List.lookup]
  unfold bindArgs PySem.W.kla_fn
  simp [l, seqItems?]
  rfl
def oneArg (p : Arguments) (x : Str) : Bool := match p with
  | ⟨[], [⟨y, none, _⟩], none, [], [], none, []⟩ => decide (y = x)
  | _ => false
theorem one_arg_of {p : Arguments} {x : Str} (h : oneArg p x = true) : ∃ q, p = ⟨[], [⟨x, none, q⟩], none, [], [], none, []⟩ := by
  unfold oneArg at h
  split at h
  · rename_i y q
    exact ⟨q, by rw [of_decide_eq_true h]⟩
  · cases h
section
variable {L : Lk} {CX : CXT} {k : Nat} {Ew : XK} {N : List Str} {sc : Scope} {X : Cx}
theorem c_sortK (c : Cq L CX k Ew N sc X) (t : TlX L CX k X) {it : It} {i : Nat} {b : E} {x : Str} {a' : Expr} {params : Arguments} {body : Expr} {scope : Scope} {p lpos kp pos : Pos} (g : isGl sc "sorted" = true) (ns : notStar a' = true) (ha : PE X a' (tSrc L X.K Ew it))
    (lb : lamPB sc scope x = true) (em : oneArg params x = true) (hi : N[i]? = some x)
    (ih : ∀ (k2 : Nat) (E : XK) (X' : Cx), Cq L CX k2 E N scope X' → (∀ f y, L.fnm[f]? = some y → FnIn L CX k2 X' f y) → PE X' body (tE L X'.K E b)) :
    PE X (.Call (.Name "sorted" p) [a'] [⟨some "key", .Lambda params body scope lpos, kp⟩] pos) (tE L X.K Ew (.sortK it i b)) := by
  obtain ⟨k2, rfl, hfn⟩ := t.lv
  obtain ⟨cc, P, TB, hcode, hmT, hu⟩ := t.ta
  have hcx := t.cx
  subst hcx
  obtain ⟨ap, rfl⟩ := one_arg_of em
  have Lm : LamP X.env.scope scope x := lamP_by (by rw [c.sc]; exact lb)
  refine ⟨fun pins s σ H Q I h => ?_⟩
  have hsrc : tSrc L X.K Ew it σ H fun u H1 => ∃ Z env1 xs ks, RE X.K L.T Z H1 env1 σ ∧ Gsrc X.K Z H1 u xs ∧ i < env1.length ∧ keysOf (fun en => evE L.ft L.gl b en) i (valE env1) xs = some ks ∧ sortOk ks = true ∧ szOk xs.length = true ∧
      (∀ H2 p us, (∀ b o, H1 b = some o → NTb o → H2 b = some o) → (∀ b, H1 b ≠ none → H2 b ≠ none) → LamX.Tabs L.T H2 → H1 p = none → H2 p = some (.lst us) → DpAll X.K Z us (sortKD xs ks) → Q (.ref p) H2) := by
    obtain ⟨Z, env, r0, h⟩ := h
    simp only [evE] at h
    refine ⟨Z, env, r0, h.bind fun xs e1 Z1 H1 s1 h1 u Z2 H2 s2 src => ?_⟩
    split at h1
    · rename_i hil
      split at h1
      · rename_i ks hks
        split at h1
        · rename_i hso
          rw [Bool.and_eq_true] at hso
          refine ⟨Z2, e1, xs, ks, s2.re, src, hil, hks, hso.1, hso.2, fun H3 p us kp3 dm3 t3 hp hp3 da => ?_⟩
          have z2 : Z2 p = none := s2.re.ex.free hp
          have s3 : Stp X.K L.T σ Z2 H2 e1 Z2 H3 e1 := Stp.mk0 (s2.re.mono (Ex.refl _) ⟨fun b o q n => kp3 b o (s2.re.ex.kp b o q n) n, fun b q => dm3 b (s2.re.ex.dm b q)⟩ t3 (fun i a us l e q => ⟨kp3 _ _ q ntb_lst, (s2.re.ndom ⟨i, l, e⟩).elim fun _ z => z.2⟩) s2.re.pt)
            ⟨Ex.refl _, fun b o q _ _ n => kp3 b o q n, dm3, fun b q => .inl q⟩
          refine h1 Z2 H3 (s2.trans s3) (.ref p) ⟨p, us, rfl, ?_, hp3, z2, da⟩
          cases q : H p with
          | none => rfl
          | some o => exact absurd hp (s2.mv.dm p (by rw [q]; simp))
        · exact h1.elim
      · exact h1.elim
    · exact h1.elim
  refine wpAny_Call_Name_kw (ld_blt I (gl_of (by rw [c.sc]; exact g)) (c.blt _ (blt_in (by decide))) (show bootBuiltins "sorted" = some (.builtin "sorted") by rfl) ?_ (by decide) (by decide))
  have sa : starEach [a'] X.env = (false, eval a' X.env) :: starEach [] X.env := star_cons ns
  refine PyProof.Rows.callWith_kw (one_arg ha I hsrc (fun v s1 u H1 I1 rv q1 => ?_) sa) (by rw [sa]; rfl) (star_any (by simp [ns])) (by rfl) (by rfl)
  · obtain ⟨Z, env1, xs, ks, re1, src, hil, hks, hso, hsz, fin⟩ := q1
    refine PyProof.Rows.kws_cons (lam_new I1 TB hcode hmT hu re1.tb rfl (Lm.cells I1.ok) fun f c' pm ctv H2 s2 I2 eN nG T2 hf hf0 hfr hco => PyProof.Rows.kws_nil ?_)
    have kp12 : ∀ b o, H1 b = some o → NTb o → H2 b = some o := fun b o e n => eN b o e n
    have re2 : RE X.K L.T Z H2 env1 σ := re1.mono (Ex.refl _) ⟨fun b o q n => kp12 b o (re1.ex.kp b o q n) n, fun b q => nG b (re1.ex.dm b q)⟩ T2 (fun i a us l e q => ⟨kp12 _ _ q ntb_lst, (re1.ndom ⟨i, l, e⟩).elim fun _ z => z.2⟩) re1.pt
    obtain ⟨us, da, gath⟩ := src_gath I2 re2.ex (src.mono kp12) rv hsz
    obtain ⟨al, so, dp⟩ := sortOk_of hso
    have hkl := (keysOf_at hks).1
    have hzx := szOk_of hsz
    have room := room2 c.room
    show wpAny (model X.prog X.w) X.A (call (.builtin "sorted") [v] [(Str.ofString "key", .ref f)]) (EP X pins σ Q) X.xe s2
    refine PyProof.Rows.call_function_entry_kw kind_sorted plain_sorted entry_sorted (ksk_s1 _ _) ?_
    unfold Builtin.«sorted»
    refine wpAny_bind (m := checkCount "sorted" 1 1 _) (wpAny_pure ?_)
    refine wpAny_bind (gath _ _ _ c.room.hd fun h' tk its kk rvi => ?_)
    have hzi : its.length ≤ sizeLine := by rw [← rvi.length, dpa_len da]; exact hzx
    refine wpAny_bind (wpAny_newList ?_ hzi)
    have hat : (h'.push (seqObj "list" its.toArray 0)).get? h'.objs.size = some (seqObj "list" its.toArray 0) := Heap.get?_push_size _ rfl
    have J2 : Inv X pins σ H2 { s2 with heap := h', toks := tk } := I2.kept kk
    refine wpAny_bind (wpAny_holding (wpAny_call_entry_kw slot_list_sort ⟨_, hat, rfl⟩ entry_list_sort ?body (ksk_l1 _ _)))
    case body =>
      show wpAny (model X.prog X.w) X.A.in1.in1 (Builtin.«list.sort» ⟨[.ref h'.objs.size], [(Str.ofString "key", .ref f)]⟩) _ _ _
      rw [ksk_t1]
      refine sortK_list (Z := Z) (H0 := H2) (s0 := { s2 with heap := h', toks := tk }) (tk := tk) (env := env1) (T := L.T) (ks := ks) (xs := xs) (us := us) J2 re2 (fun b o e => Heap.get?_push_of_some _ e) (Nat.le_refl _) hat rvi da hkl hzi al so (fun d hd => by have := roomU c.room (n := 42) (by decide); have := depth_mem hd; show X.A.units + 1 + 1 + _ < _; omega)
        (fun kS oa j u s' hs hK hu => key_turn (k := k2) (b := b) J2 c.nd Lm (by rw [c.N]; exact hi) room (fun J => J.env0.in1.in1) (kk _ _ hf) hf0 hfr hco (fun u => bind_one) (fun s H hr => ?_) hs rvi da hks hil hzx hK hu) fun s3 H3 us' I3 kp3 dm3 t3 hp3 da3 => ?_
      · exact ih k2 _ _ (cq_lam c hr) fun f y q => ⟨(hfn f y q).nd, (hfn f y q).ex⟩
      · refine ⟨_, rfl, wpAny_pure ⟨_, rfl, ?_⟩⟩
        refine ⟨.ref h'.objs.size, H3, I3, rfl, fin H3 _ us' (fun b o e n => kp3 b o (kp12 b o e n) n) (fun b e => dm3 b (nG b e)) t3 ?_ hp3 da3⟩
        cases q : H1 h'.objs.size with
        | none => rfl
        | some o => exact absurd (J2.hok.fresh (Nat.le_refl _)) (nG _ (by rw [q]; simp))
end
end PL

/-! part PLSet -/
set_option Elab.async false
set_option linter.all false
set_option autoImplicit false
set_option maxRecDepth 100000
set_option maxHeartbeats 4000000
/-! set(xs) of a list of ints, in the order that it was filled -/
namespace PL
open PySem PySem.Spec PyProof.Rows L2
abbrev newS (w : World) : Obj := { cls := .type "set", dict := none, data := .set #[] 0 (.fresh 0 0 (!w.params.followText "set-order")) }
section
variable {P : Program} {w : World} {A : Around} {E : Value → Shared → Prop} {s : Shared}
theorem call_set_lstI {l : Addr} {xs : Array Value} (ns : List Int) {Q : Value → Shared → Prop} (hh : A.handled = none) (hl : s.heap.IsList l xs) (hi : IntsAre xs.toList ns) (hb : ns.length + 1 < scanBound)
    (h : ∀ (h' : Heap) (tk c : Nat), SetR w h' s.heap.objs.size (fun j => decide (j ∈ ns)) c → (∀ b o, s.heap.get? b = some o → h'.get? b = some o) → Q (.ref s.heap.objs.size) { s with heap := h', toks := tk }) :
    wpAny (model P w) A (call (.type "set") [.ref l]) Q E s := by
  have size : xs.size = ns.length := by
    have q := IntsAre.length hi
    rw [Array.length_toList] at q
    exact q
  obtain ⟨c1, tl1, mro1⟩ := F.called_set.mro
  have made1 := F.called_set.made
  have sub1 := F.called_set.sub
  refine wpAny_call (codeAny_of_tree ?_)
  show wpAny _ _ (callAny (.type "set") _) _ _ _
  refine wpAny_pure ⟨Code.quiet_builtin _ (by decide +kernel), codeAny_builtin F.entry_type_call ?_⟩
  rw [Around.under_plain (weight_type_call_type "set" [.ref l] []) rfl]
  have notT := F.called_set.notType
  have canC := F.called_set.canCreate
  have tyC := F.typeCall_set_1 (.ref l)
  repeat (any_goals (first | assumption | wp_step))
  refine codeAny_mono (code_set_led1 (.ref l) (E := E) (Q₁ := fun ob t1 => ob = .ref s.heap.objs.size ∧ t1 = { s with heap := s.heap.push (newS w) }) ⟨rfl, rfl⟩) fun r t1 hr => ?_
  cases r with
  | error e => exact hr
  | ok fl =>
    cases fl with
    | ret ob =>
      obtain ⟨rfl, rfl⟩ := hr
      have atS : (s.heap.push (newS w)).get? s.heap.objs.size = some (newS w) := Heap.get?_push_size _ rfl
      have tyS : Shared.TypeIs { s with heap := s.heap.push (newS w) } (.ref s.heap.objs.size) "set" := ⟨_, atS, rfl⟩
      have ini := F.called_set.init.lookup
      have bin := F.called_set.init.bind (.ref s.heap.objs.size)
      repeat (any_goals (first | assumption | wp_step))
      refine codeAny_mono (codeAny_call_builtin (R := wants (fun r t2 => r = .none ∧ ∃ h' tk c, t2 = { s with heap := h', toks := tk } ∧ SetR w h' s.heap.objs.size (fun j => decide (j ∈ ns)) c ∧ (∀ b o, s.heap.get? b = some o → h'.get? b = some o)) E) F.called_set.init.plain F.entry_set_init (check_set_init_1 tyS ?_)) fun r2 t2 hr2 => ?_
      · obtain ⟨⟨cl, dd, dt, sl⟩, ho, hc, ne, hd⟩ := hl
        simp only at hc hd ne
        subst hc
        have ho2 : (s.heap.push (newS w)).get? l = some ⟨.type "list", dd, dt, sl⟩ := Heap.get?_push_of_some _ ho
        have s1 := F.sub_list_set
        have s2 := F.sub_list_frozenset
        have nd : (Value.type "list" == Value.type "dict") = false := by decide
        have hl1 : (s.heap.push (newS w)).IsList l xs := ⟨_, ho2, rfl, ne, hd⟩
        unfold Builtin.«set.__init__» noKeywords Builtin.Frozenset.updateFrom
        generalize hPI : pyIter = PI
        wp_walk
        subst hPI
        refine wpAny_pyIter_list hl1 ?_
        refine wpAny_bind (wpAny_runValue ?_)
        have lt : l < s.heap.objs.size := Heap.lt_size ho
        have h3 : A.in1.in1.in1.handled = none := by simp [hh]
        have n1 : l ≠ (s.heap.push (newS w)).objs.size := by
          rw [Heap.size_push]
          exact Nat.ne_of_lt (Nat.lt_succ_of_lt lt)
        have n2 : s.heap.objs.size ∉ [(s.heap.push (newS w)).objs.size, l] := by
          rw [Heap.size_push]
          simp only [List.mem_cons, List.not_mem_nil, or_false, not_or]
          exact ⟨Nat.ne_of_lt (Nat.lt_succ_self _), Nat.ne_of_gt lt⟩
        have vals : ∀ (i : Nat) (v : Value), xs[i]? = some v → ∃ k t, ns[i]? = some k ∧ v = .int k t := fun i v hv => by
          have q : i < ns.length := by
            rw [← size]
            exact (Array.getElem?_eq_some_iff.mp hv).1
          obtain ⟨t, e⟩ := PyProof.Rows.IntsAre.int_at hi i v (by rw [Array.getElem?_toList]; exact hv)
          refine ⟨ns[i], t, List.getElem?_eq_getElem q, ?_⟩
          rw [e, List.getD_eq_getElem?_getD, List.getElem?_eq_getElem q]
          rfl
        refine set_update_ints ((Walks.list h3 _ l n1 xs).toS) s.heap.objs.size n2 ns size hb vals (xs.size - 0) 0 _ (by omega) (Nat.zero_le _) ⟨⟨_, Heap.get?_push_size _ rfl, rfl, rfl⟩, hl1.push _⟩ ⟨0, Nat.le_refl 0, setR_new_at (Heap.get?_push_of_some _ atS)⟩ fun t3 c3 hm _ hS => ?_
        obtain ⟨hp3, g3, d3, tk3, os3⟩ := t3
        obtain rfl : g3 = s.gens := hm.gens
        obtain rfl : d3 = s.drawn := hm.drawn
        obtain rfl : os3 = s.os := hm.os
        refine wpAny_pure (show wpAny _ _ (ret Value.none) _ _ _ from wpAny_pure ⟨rfl, hp3, tk3, c3, rfl, hS, fun b o e => ?_⟩)
        have b0 : b < s.heap.objs.size := Heap.lt_size e
        have b2 : b ∉ [s.heap.objs.size, (s.heap.push (newS w)).objs.size] := by
          rw [Heap.size_push]
          simp only [List.mem_cons, List.not_mem_nil, or_false, not_or]
          exact ⟨Nat.ne_of_lt b0, Nat.ne_of_lt (Nat.lt_succ_of_lt b0)⟩
        exact hm.heap b o b2 (Heap.get?_push_of_some _ (Heap.get?_push_of_some _ e))
      · cases r2 with
        | error e => exact hr2
        | ok fl2 =>
          cases fl2 with
          | ret r =>
            obtain ⟨rfl, h', tk, c', rfl, hS, hk⟩ := hr2
            repeat (any_goals (first | assumption | wp_step))
            exact h _ _ _ hS hk
          | _ => exact hr2.elim
    | _ => exact hr.elim
end
end PL

/-! part PLStm5 -/
set_option Elab.async false
set_option linter.all false
set_option autoImplicit false
set_option maxRecDepth 100000
set_option maxHeartbeats 4000000
/-! xs[::-1], remove, insert, sorted(set(..)), in range(..) -/
namespace PL
open PySem PySem.Spec PyProof.Rows L2
theorem iteNone {α : Type} {c : Prop} [Decidable c] {a : Option α} {b : α} (h : (if c then a else none) = some b) : c ∧ a = some b := by
  by_cases q : c
  · rw [if_pos q] at h
    exact ⟨q, h⟩
  · rw [if_neg q] at h
    cases h
/-! ### xs[::-1] -/
section
variable {prog : Program} {w : World} {A : Around} {E : Value → Shared → Prop} {s : Shared}
theorem adjust_back (n : Nat) : Builtin.Slice.sliceAdjust none none (-1) (n : Int) = ((n : Int) - 1, -1) := by
  simp [Builtin.Slice.sliceAdjust]
theorem places_back (n : Nat) : Builtin.Slice.slicePlaces ((n : Int) - 1) (-1) (-1) = n := by
  unfold Builtin.Slice.slicePlaces
  rw [if_neg (by omega)]
  split
  · have : ((n : Int) - 1 - -1 - 1) / (- -1) + 1 = n := by
      rw [show (- -1 : Int) = 1 by decide, Int.ediv_one]
      omega
    rw [this]
    rfl
  · have : n = 0 := by omega
    rw [this]
    rfl
theorem pick_back (xs : Array Value) : ((List.range xs.size).filterMap fun (m : Nat) => xs[(((xs.size : Int) - 1) + (m : Int) * -1).toNat]?).toArray = xs.toList.reverse.toArray := by
  have e : (fun (m : Nat) => xs[(((xs.size : Int) - 1) + (m : Int) * -1).toNat]?) = (fun x => xs[x]?) ∘ fun k => xs.size - 1 - k := by
    funext m
    have : (((xs.size : Int) - 1) + (m : Int) * -1).toNat = xs.size - 1 - m := by omega
    show xs[_]? = xs[xs.size - 1 - m]?
    rw [this]
  rw [e, ← List.filterMap_map, PySem.W.krv_range, List.filterMap_reverse, PySem.W.krv_all]
theorem rev_tup {t sl : Addr} {its : List Value} {vk : Value} {Q : Value → Shared → Prop} (ht : IsTup s.heap t its.toArray) (hs : s.heap.IsSliceOf sl .none .none vk) (pk : IsPart vk (some (-1))) (hz : its.length ≤ sizeLine)
    (h : Q (.ref s.heap.objs.size) { s with heap := s.heap.push (tobj its.reverse) }) : wpAny (model prog w) A (getItem (.ref t) (.ref sl)) Q E s := by
  obtain ⟨ob, hob, hcl, hdt⟩ := id hs
  have tsl : s.TypeIs (.ref sl) "slice" := ⟨ob, hob, hcl⟩
  unfold getItem
  try with_reducible refine wpAny_holding ?_
  first | refine wpAny_bind (wpAny_pure ?_) | skip
  refine wpAny_bind (wpAny_sequenceKey ht.typeIs (by decide) ?_)
  refine wpAny_bind (wpAny_callSpecial?_slot (name := Str.ofString "__getitem__") ht.typeIs PyProof.Rows.slot_tuple_getitem (wpAny_call_entry PyProof.Rows.slot_tuple_getitem ht.typeIs entry_tuple_getitem ?_ (args_tuple_getitem _ _)))
  show wpAny _ _ (Builtin.Tuple.tupleItemsOf (.ref t) >>= _) _ _ s
  refine wpAny_bind (tupleItemsOf_ ht (wpAny_bind (wpAny_typeOf tsl ?_)))
  rw [if_pos (by decide)]
  have ap : wpAny (model prog w) A.in1 (Builtin.Slice.sliceApplied (.ref sl) (pure (its.toArray.size : Int))) (fun r s' => r = ((its.toArray.size : Int) - 1, -1, its.toArray.size) ∧ s' = s) (fun _ _ => False) s := by
    unfold Builtin.Slice.sliceApplied Builtin.Slice.sliceFields
    refine wpAny_bind (wpAny_bind (wpAny_field hob hdt (x := .none) rfl (wpAny_bind (wpAny_field hob hdt (x := .none) rfl (wpAny_bind (wpAny_field hob hdt (x := vk) rfl (wpAny_pure ?_)))))))
    refine wpAny_bind (HT.slicePart_ pk ?_)
    show wpAny _ _ (if ((-1 : Int) == 0) = true then _ else _) _ _ s
    rw [if_neg (by decide)]
    refine wpAny_bind (HT.slicePart_ .none (wpAny_bind (HT.slicePart_ .none (wpAny_bind (wpAny_pure ?_)))))
    show wpAny _ _ (match Builtin.Slice.sliceAdjust none none (-1) (its.toArray.size : Int) with | (lo, hi) => pure (lo, (-1 : Int), Builtin.Slice.slicePlaces lo hi (-1))) _ _ s
    rw [adjust_back]
    show wpAny _ _ (pure (((its.toArray.size : Int) - 1), (-1 : Int), Builtin.Slice.slicePlaces ((its.toArray.size : Int) - 1) (-1) (-1))) _ _ s
    rw [places_back]
    exact wpAny_pure ⟨rfl, rfl⟩
  refine wpAny_bind (wpAny_mono ap (fun r s' hr => ?_) fun _ _ hF => hF.elim)
  obtain ⟨rfl, rfl⟩ := hr
  have no : ¬ ((((its.toArray.size : Int) - 1) == 0 && (-1 : Int) == 1 && its.toArray.size == its.toArray.size) = true) := by
    intro q
    rw [Bool.and_eq_true, Bool.and_eq_true] at q
    exact absurd q.1.2 (by decide)
  show wpAny _ _ (if (((its.toArray.size : Int) - 1) == 0 && (-1 : Int) == 1 && its.toArray.size == its.toArray.size) = true then _ else _) _ _ _
  rw [if_neg no, pick_back]
  have so : sizeOk (.seq its.toArray.toList.reverse.toArray) := by
    show its.toArray.toList.reverse.toArray.size ≤ sizeLine
    simpa using hz
  refine wpAny_bind (m := Builtin.Tuple.tupleExact _) (wpAny_newObj_type (wpAny_pure ⟨_, rfl, wpAny_pure ?_⟩) so)
  have e : its.toArray.toList.reverse = its.reverse := by simp
  rw [e]
  exact h
end
section
variable {L : Lk} {CX : CXT} {k : Nat} {Ew : XK} {N : List Str} {sc : Scope} {X : Cx}
theorem c_rev (c : Cq L CX k Ew N sc X) {a : O} {a' : Expr} {j : Nat} {p1 p2 p3 pos : Pos} (ha : PE X a' (tO L X.K Ew a)) : PE X (.Subscript a' (.Slice none none (some (.UnaryOp .USub (.Constant (.int 1) j p1) p2)) p3) pos) (tE L X.K Ew (.op1 .rev a)) := by
  refine ⟨fun pins s σ H Q I h => ?_⟩
  have h' : tO L X.K Ew a σ H fun u H1 => ∃ Z d r, Ex Z H1 ∧ Sh X.K Z H1 u d ∧ sem1 .rev d = some r ∧ OpPost X.K Z H1 Q r := by
    obtain ⟨Z, env, r0, h⟩ := h
    simp only [evE] at h
    refine ⟨Z, env, r0, h.bind fun x e1 Z1 H1 s1 h1 u g => ?_⟩
    obtain ⟨Z2, s2, hd⟩ := Hold.of r0 s1 g
    obtain ⟨r, e, hp⟩ := h1.lift
    obtain ⟨d, e2, e3⟩ := bindSome e
    exact ⟨Z2, d, r, s2.re.ex, hd.sh s2.re e2, e3, opp_of' s2.mv.dm s2 hp⟩
  refine Subscript_ (thn (ha.run pins s σ H _ I h') fun v s1 ⟨u, H1, I1, ru, Z, d, r, ez, sh, er, q⟩ => ?_)
  have step : PO X (some (.UnaryOp .USub (.Constant (.int 1) j p1) p2)) (tPart (tUn (rU fun i => .int (-i)) (tC (.int 1)))) := po_some (pe_un un_neg pe_int)
  refine wpAny_Slice (thn (po_none.run pins s1 σ H1 (fun o G => o = none ∧ G = H1) I1 ⟨rfl, rfl⟩) fun va t1 ⟨oa, G1, J1, pa, ea, ga⟩ => ?_)
  obtain rfl := ea
  obtain rfl := ga
  refine thn (po_none.run pins t1 σ G1 (fun o G => o = none ∧ G = G1) J1 ⟨rfl, rfl⟩) fun vb t2 ⟨ob, G2, J2, pb, eb, gb⟩ => ?_
  obtain rfl := eb
  obtain rfl := gb
  refine thn (step.run pins t2 σ G2 (fun o G => o = some (-1) ∧ G = G2) J2 ⟨1, rfl, -1, rfl, rfl, rfl⟩) fun vk t3 ⟨ok, G3, J3, pk, ek, gk⟩ => ?_
  obtain rfl := ek
  obtain rfl := gk
  cases pa
  cases pb
  have J4 : Inv X pins σ G3 { t3 with heap := t3.heap.push { cls := .type "slice", data := .fields #[.none, .none, vk] } } := J3.kept (t' := t3.toks) fun b o z => Heap.get?_push_of_some _ z
  have isl : Heap.IsSliceOf (t3.heap.push { cls := .type "slice", data := .fields #[.none, .none, vk] }) t3.heap.objs.size .none .none vk := Heap.IsSliceOf.new _ .none .none vk
  cases d with
  | list xs =>
    cases er
    obtain ⟨p, us, its, as, rfl, rfl, hl, _, rv, da, _, z1, z2⟩ := sh_list J4 ez sh ru
    show wpAny (model X.prog X.w) X.A (subscriptTail a' (.Slice none none (some (.UnaryOp .USub (.Constant (.int 1) j p1) p2)) p3) (.ref p) (.ref t3.heap.objs.size)) (EP X pins σ Q) X.xe { t3 with heap := t3.heap.push { cls := .type "slice", data := .fields #[.none, .none, vk] } }
    refine tail_any (ops := [.ref p, .ref t3.heap.objs.size]) hl.typeIs (PySem.slot_list_getitem.lookup) ?_ (by with_unfolding_all rfl)
    refine wpAny_getItem_list_slice hl isl .none .none pk (by decide) ?_ (by rw [List.size_toArray]; omega)
    rw [PySem.W.krv_pick]
    have J5 := J4.laid (t' := t3.toks) (o := .lst us.reverse) (fun b o z => Heap.get?_push_of_some _ z) (Nat.le_refl _) ⟨by rw [List.length_reverse, rv.length]; omega, _, 0, rv.reverse, Heap.get?_push_size _ rfl⟩
    exact ⟨.ref _, _, J5, rfl, q _ _ (J4.hok.fresh (Nat.le_refl _)) (dpa_rev da)⟩
  | tuple xs =>
    cases er
    obtain ⟨p, us, its, as, rfl, rfl, hl, rv, da, _, z1, z2⟩ := sh_tup J4 ez sh ru
    show wpAny (model X.prog X.w) X.A (subscriptTail a' (.Slice none none (some (.UnaryOp .USub (.Constant (.int 1) j p1) p2)) p3) (.ref p) (.ref t3.heap.objs.size)) (EP X pins σ Q) X.xe { t3 with heap := t3.heap.push { cls := .type "slice", data := .fields #[.none, .none, vk] } }
    have ht : IsTup _ p its.toArray := hl
    refine tail_any (ops := [.ref p, .ref t3.heap.objs.size]) ht.typeIs (PyProof.Rows.slot_tuple_getitem.lookup) ?_ (by with_unfolding_all rfl)
    refine rev_tup ht isl pk (by omega) ?_
    exact new_tup J4 q ez rv.reverse (by rw [List.length_reverse, rv.length]; omega) (dpa_rev da)
  | _ => cases er
/-! ### sorted(set(..)) -/
theorem setR_size {w : World} {h : Heap} {a : Addr} {ns : List Int} {n : Nat} (R : SetR w h a (fun j => decide (j ∈ ns)) n) : n = (uniq ns).length := by
  obtain ⟨o, es, ep, t, ho, hex, hdt, gg, nd, hm2, hb, hf, hn, hr, hl2⟩ := R
  have perm : (es.toList.map keyOf).Perm (uniq ns) := (List.perm_ext_iff_of_nodup nd nodup_uniq).mpr fun j => by
    rw [← hm2 j, mem_uniq, decide_eq_true_eq]
  have := perm.length_eq
  rw [List.length_map, Array.length_toList] at this
  omega
theorem usort_eq {ns ks : List Int} (h1 : ks.Pairwise (· < ·)) (h2 : ∀ k, k ∈ ks ↔ k ∈ ns) : ks = usort ns := by
  have nd : ks.Nodup := h1.imp fun h => by omega
  have p : ks.Perm (usort ns) := ((List.perm_ext_iff_of_nodup nd nodup_uniq).mpr fun k => by rw [h2, mem_uniq]).trans (List.mergeSort_perm _ _).symm
  refine List.Perm.eq_of_pairwise (le := fun a b : Int => a ≤ b) (fun a b _ _ g1 g2 => by omega) (h1.imp fun h => by omega) ?_ p
  have := List.pairwise_mergeSort (le := fun a b : Int => decide (a ≤ b)) (fun a b c g1 g2 => by simp at *; omega) (fun a b => by simp; omega) (uniq ns)
  exact this.imp fun h => by simpa using h
theorem sort_of_set {pins : List (Addr × Obj)} {σ : St} {Z H : Hp} {s : Shared} {Q : VK} {ns : List Int} {a : Addr} {n : Nat} (I : Inv X pins σ H s) (hh : X.A.handled = none) (R : SetR X.w s.heap a (fun j => decide (j ∈ ns)) n) (hn : (uniq ns).length < 64) (q : OpPost X.K Z H Q (.l ((usort ns).map .int))) :
    wpAny (model X.prog X.w) X.A (call (.builtin "sorted") [.ref a]) (EP X pins σ Q) X.xe s := by
  refine sorted_set R hh (by rw [setR_size R]; exact hn) fun s' p out c ks k g o hp hg hi hs hm hl => ?_
  have ek : ks = usort ns := usort_eq hs fun k => by rw [hm k, decide_eq_true_eq]
  have fr : H p = none := I.hok.fresh hp
  have sz : (ks.map V.int).length ≤ sizeLine := by
    rw [List.length_map, hl, setR_size R, sizeLine_eq]
    omega
  obtain ⟨hh', gg', dd', tt', oo'⟩ := s'
  obtain rfl : oo' = s.os := o
  have J : Inv X pins σ (upd H p (.lst (ks.map V.int))) { s with heap := hh', gens := gg', drawn := dd', toks := tt' } :=
    I.call (ch := []) (Un.laid k hp fr) (I.hok.laid k hp ⟨sz, out.toList, c, vals_of_ints hi, hg⟩) (by rw [show gg' = s.gens from g]; exact I.bare) (fun _ z => nomatch z)
  refine ⟨.ref p, _, J, rfl, ?_⟩
  rw [ek]
  exact q p _ fr (dpa_int_list _)
theorem c_sortSet (c : Cq L CX k Ew N sc X) {a : O} {a' : Expr} {p p2 q pos : Pos} (g : isGl sc "sorted" = true) (g2 : isGl sc "set" = true) (ns : notStar a' = true) (ha : PE X a' (tO L X.K Ew a)) :
    PE X (.Call (.Name "sorted" p) [.Call (.Name "set" p2) [a'] [] q] [] pos) (tE L X.K Ew (.sortSet a)) := by
  refine ⟨fun pins s σ H Q I h => ?_⟩
  have h' : tO L X.K Ew a σ H fun u H1 => ∃ Z d r, Ex Z H1 ∧ Sh X.K Z H1 u d ∧ sortSetD d = some r ∧ OpPost X.K Z H1 Q r := by
    obtain ⟨Z, env, r0, h⟩ := h
    simp only [evE] at h
    refine ⟨Z, env, r0, h.bind fun x e1 Z1 H1 s1 h1 u g => ?_⟩
    obtain ⟨Z2, s2, hd⟩ := Hold.of r0 s1 g
    obtain ⟨r, e, hp⟩ := h1.lift
    obtain ⟨d, e2, e3⟩ := bindSome e
    exact ⟨Z2, d, r, s2.re.ex, hd.sh s2.re e2, e3, opp_of' s2.mv.dm s2 hp⟩
  refine Call_ (ld_blt I (gl_of (by rw [c.sc]; exact g)) (c.blt _ (blt_in (by decide))) (show bootBuiltins "sorted" = some (.builtin "sorted") by rfl) ?_)
  refine PyProof.Rows.callWith_builtin1 (PyProof.Rows.args_cons ?_ rfl) rfl rfl
  refine Call_ (ld_blt I (gl_of (by rw [c.sc]; exact g2)) (c.blt _ (blt_in (by decide))) boot_set ?_)
  refine PyProof.Rows.callWith_type1 (PyProof.Rows.args_cons (thn (ha.run pins s σ H _ I h') fun v s1 ⟨x, H1, I1, r1, q1⟩ => PyProof.Rows.args_nil ?_) (star_cons ns)) (star_cons ns) rfl
  obtain ⟨Z, d, r, ez, sh, e, q1⟩ := q1
  cases d with
  | tuple xs =>
    obtain ⟨hl, e⟩ := iteNone (show (if xs.length ≤ 1000 then _ else none) = some r from e)
    obtain ⟨ms, en, e⟩ := bindSome e
    obtain ⟨hu, e⟩ := iteNone e
    cases e
    obtain ⟨p0, us, its, as, rfl, rfl, ht, rv, da, _, hz, hz2⟩ := sh_tup I1 ez sh r1
    obtain ⟨e1, e2⟩ := dpa_ints da en
    subst e1
    have hlen : ms.length = xs.length := by rw [e2, List.length_map]
    refine call_set_tupI (w := X.w) (P := X.prog) ms (I1.ok.hd c.calm) ht (ints_of_vals rv) (by unfold scanBound; omega) fun h' tk cc R1 hcn kp => ?_
    refine PyProof.Rows.args_nil ?_
    exact sort_of_set (I1.kept (t' := tk) kp) (I1.ok.hd c.calm) R1 hu q1
  | list xs =>
    obtain ⟨hl, e⟩ := iteNone (show (if xs.length ≤ 1000 then _ else none) = some r from e)
    obtain ⟨ms, en, e⟩ := bindSome e
    obtain ⟨hu, e⟩ := iteNone e
    cases e
    obtain ⟨p0, us, its, as, rfl, rfl, ht, _, rv, da, _, hz, hz2⟩ := sh_list I1 ez sh r1
    obtain ⟨e1, e2⟩ := dpa_ints da en
    subst e1
    have hlen : ms.length = xs.length := by rw [e2, List.length_map]
    refine call_set_lstI (w := X.w) (P := X.prog) ms (I1.ok.hd c.calm) ht (ints_of_vals rv) (by unfold scanBound; omega) fun h' tk cc R1 kp => ?_
    refine PyProof.Rows.args_nil ?_
    exact sort_of_set (I1.kept (t' := tk) kp) (I1.ok.hd c.calm) R1 hu q1
  | _ => cases e
/-! ### x in range(..) -/
def Grg (H : Hp) (u : V) (xs : List PyData) : Prop := ∃ a lo hi, u = .ref a ∧ H a = some (.rng lo hi) ∧ xs = rngD lo (hi - lo).toNat
def tRg (L : Lk) (K : PySem.W.Frag) (Ew : XK) (it : It) : TE := fun σ H Q => ∃ Z env, RE K L.T Z H env σ ∧ Post L K Ew σ Z H env (fun xs e1 Z1 H1 => ∀ u Z2 H2, Stp K L.T σ Z H env Z2 H2 e1 → Grg H2 u xs → Q u H2) (evIt L.ft L.gl it env)
theorem rg_r1 (c : Cq L CX k Ew N sc X) {x : E} {a : Expr} {p pos : Pos} (g : isGl sc "range" = true) (ns : notStar a = true) (ha : PE X a (tE L X.K Ew x)) : PE X (.Call (.Name "range" p) [a] [] pos) (tRg L X.K Ew (.r1 x)) :=
  peImp (pe_rng1 (gl_of (by rw [c.sc]; exact g)) (c.blt _ (blt_in (by decide))) ha (star_cons ns)) fun σ H Q q => by
    obtain ⟨Z, env, r0, h⟩ := q
    simp only [evIt] at h
    refine ⟨Z, env, r0, h.bind fun y e1 Z1 H1 s1 h1 u g => ?_⟩
    obtain ⟨xs, er, hp⟩ := h1.lift
    cases hy : y.d with
    | int j =>
      rw [hy] at er
      obtain ⟨hs, rfl⟩ := itesome (show (if smallI j = true then _ else none) = some xs from er)
      refine ⟨j, dp_intv g hy, fun q hq => ?_⟩
      have s2 := s1.trans (Stp.new (o := .rng 0 j) s1.re hq)
      exact hp _ _ s2 _ _ _ s2 ⟨q, 0, j, rfl, upd_same, by simp⟩
    | _ => rw [hy] at er; cases er
theorem rg_r2 (c : Cq L CX k Ew N sc X) {x y : E} {a b : Expr} {p pos : Pos} (g : isGl sc "range" = true) (ns : notStar a = true) (ns2 : notStar b = true) (ha : PE X a (tE L X.K Ew x)) (hb : PE X b (tE L X.K Ew y)) : PE X (.Call (.Name "range" p) [a, b] [] pos) (tRg L X.K Ew (.r2 x y)) :=
  peImp (pe_rng2 (gl_of (by rw [c.sc]; exact g)) (c.blt _ (blt_in (by decide))) ha hb (star_cons ns) (star_cons ns2) (star_any (by simp [ns2]))) fun σ H Q q => by
    obtain ⟨Z, env, r0, h⟩ := q
    simp only [evIt] at h
    refine ⟨Z, env, r0, h.bind fun u1 e1 Z1 H1 s1 h1 u g => ?_⟩
    obtain ⟨Z2, s2, du⟩ := s1.toV r0 g
    refine ⟨Z2, e1, s2.re, (h1.step s2).bind fun u2 e2 Z3 H3 s3 h3 v g3 => ?_⟩
    obtain ⟨xs, er, hp⟩ := h3.lift
    cases hx : u1.d with
    | int i =>
      cases hy : u2.d with
      | int j =>
        rw [hx, hy] at er
        obtain ⟨hs, rfl⟩ := itesome (show (if (smallI i && smallI j) = true then _ else none) = some xs from er)
        refine ⟨i, j, dp_intv g hx, dp_intv g3 hy, fun q hq => ?_⟩
        have s4 := s3.trans (Stp.new (o := .rng i j) s3.re hq)
        exact hp _ _ s4 _ _ _ (s2.trans s4) ⟨q, i, j, rfl, upd_same, rfl⟩
      | _ => rw [hx, hy] at er; cases er
    | _ => rw [hx] at er; cases er
theorem any_rngD (i lo : Int) (n : Nat) : ((rngD lo n).any fun z => PyData.eqv z (.int i)) = decide (lo ≤ i ∧ i < lo + n) := by
  unfold rngD
  rw [List.any_map]
  by_cases q : lo ≤ i ∧ i < lo + n
  · rw [decide_eq_true q, List.any_eq_true]
    refine ⟨(i - lo).toNat, List.mem_range.mpr (by omega), ?_⟩
    show PyData.eqv (.int (lo + ((i - lo).toNat : Nat))) (.int i) = true
    rw [show lo + (((i - lo).toNat : Nat) : Int) = i by omega]
    simp [PyData.eqv]
  · rw [decide_eq_false q, List.any_eq_false]
    intro j hj z
    have hj := List.mem_range.mp hj
    have z : PyData.eqv (.int (lo + (j : Nat))) (.int i) = true := z
    simp [PyData.eqv] at z
    exact q (by omega)
theorem inR_op {x : E} {it : It} : ∀ σ H Q, tE L X.K Ew (.inR false x it) σ H Q → tOp (fun x y H Q => ∃ i a lo hi, x = V.int i ∧ y = V.ref a ∧ H a = some (.rng lo hi) ∧ Q (.bl (decide (lo ≤ i ∧ i < hi))) H) (tE L X.K Ew x) (tRg L X.K Ew it) σ H Q := fun σ H Q q => by
  obtain ⟨Z, env, r0, h⟩ := q
  simp only [evE] at h
  refine ⟨Z, env, r0, h.bind fun r e1 Z1 H1 s1 h1 u g => ?_⟩
  obtain ⟨Z2, s2, du⟩ := s1.toV r0 g
  refine ⟨Z2, e1, s2.re, (h1.step s2).bind fun xs e2 Z3 H3 s3 h3 v Z4 H4 s4 g3 => ?_⟩
  obtain ⟨a, lo, hi, rfl, ha, rfl⟩ := g3
  split at h3
  · rename_i i hi2
    refine ⟨i, a, lo, hi, dp_intv g hi2, rfl, ha, ?_⟩
    rw [any_rngD] at h3
    have e : decide (lo ≤ i ∧ i < lo + ((hi - lo).toNat : Nat)) = decide (lo ≤ i ∧ i < hi) := decide_eq_decide.mpr (by omega)
    rw [e, Bool.false_bne] at h3
    exact h3 Z4 H4 s4 _ (Dp.bl _)
  · exact h3.elim
theorem c_inR {x : E} {it : It} {a b : Expr} {pos : Pos} (hm : behindInMarks .In b = false) (ha : PE X a (tE L X.K Ew x)) (hb : PE X b (tRg L X.K Ew it)) : PE X (.Compare a [.In] [b] pos) (tE L X.K Ew (.inR false x it)) :=
  peImp (pe_cmpR op_in_rng ha hb hm) inR_op
theorem t_inR {x : E} {it : It} {a b : Expr} {pos : Pos} (hm : behindInMarks .In b = false) (ha : PE X a (tE L X.K Ew x)) (hb : PE X b (tRg L X.K Ew it)) : PT X (.Compare a [.In] [b] pos) (tT L X.K Ew (evT L (.inR false x it))) :=
  test_cmp1 op_in_rng ha hb hm inR_op
theorem iteS {c : Prop} [Decidable c] {L : Lk} {K : PySem.W.Frag} {Ew : XK} {Hb : Hp} {D : Ends} {Z H : Hp} {env : En} {σ : St} {o : SOut} (h : PostS L K Ew Hb D Z H env σ (if c then o else .bad)) : c ∧ PostS L K Ew Hb D Z H env σ o := by
  by_cases q : c
  · rw [if_pos q] at h
    exact ⟨q, h⟩
  · rw [if_neg q] at h
    exact h.elim
/-! ### xs.remove(e), xs.insert(i, e) -/
theorem few2 {e e2 : Expr} {env : Env} {cpos : Pos} (ns : notStar e = true) (ns2 : notStar e2 = true) : ((backTo cpos (starEach [e, e2] env)).all (fun x => !x.1) && (backToKw cpos (keywordEach [] env)).all (fun x => x.1.isSome)
      && decide (([e, e2] : List Expr).length + ([] : List Keyword).length + (if ([] : List Keyword).isEmpty then 0 else 1) < 30)) = true := by
  rw [star_cons ns, star_cons ns2]
  rfl
theorem s_rem (c : Cq L CX k Ew N sc X) {i : Nat} {e : E} {x : Str} {e' : Expr} {np ap cp pos : Pos} (hN : X.N[i]? = some x) (hv : isVis X.env.scope x = true) (hn : okName x = true) (hl : (ap.endLine == cp.line) = true) (ns : notStar e' = true) (he : PE X e' (tE L X.K Ew e)) :
    PS X (.Expr (.Call (.Attribute (.Name x np) "remove" ap) [e'] [] cp) pos) (tX L X.K Ew (exS L.ft L.gl L.fuel (.rem i e))) :=
  psImp (ps_expr (pe_remX c.calm LamX.takes0 (c_item hN hv hn) he (base_of rfl) (few1 ns) hl (star_cons ns) rfl) rfl) fun D σ H q => by
    obtain ⟨Hb, Z, env, a, h⟩ := q
    simp only [exS] at h
    split at h
    · exact h.elim
    · rename_i hm
      cases em : rdM i env with
      | none => rw [em] at hm; exact absurd rfl hm
      | some xs0 =>
        obtain ⟨a0, us0, ea, hH, _⟩ := a.re.mAt em
        refine ⟨.ref a0, sg_some ea, tyl (.inl (.inl hH)), Z, env, a.re, PostS.of a h fun r e1 Z1 H1 s1 h1 u g => ?_⟩
        obtain ⟨Z2, s2, du⟩ := s1.toV a.re g
        split at h1
        · rename_i k ns er exx
          obtain ⟨xs, ex, hi⟩ := bindSome exx
          obtain ⟨a1, us, ea1, hH1, da⟩ := s2.re.mAt ex
          rw [ea] at ea1
          cases ea1
          obtain ⟨rfl, rfl⟩ := dpa_ints da hi
          split at h1
          · rename_i hk
            exact ⟨a0, ns, k, rfl, dp_intv g er, hH1, fun _ => h1 Z2 _ σ ((s2.trans (Stp.wrM (us := (ns.erase k).map V.int) s2.re ex ea (dpa_int_list _))).toS a.re), fun z => absurd hk z⟩
          · exact h1.elim
        · exact h1.elim
theorem s_ins {i : Nat} {d e : E} {x : Str} {d' e' : Expr} {np ap cp pos : Pos} (hN : X.N[i]? = some x) (hv : isVis X.env.scope x = true) (hn : okName x = true) (hl : (ap.endLine == cp.line) = true) (ns : notStar d' = true) (ns2 : notStar e' = true) (hd : PE X d' (tE L X.K Ew d)) (he : PE X e' (tE L X.K Ew e)) :
    PS X (.Expr (.Call (.Attribute (.Name x np) "insert" ap) [d', e'] [] cp) pos) (tX L X.K Ew (exS L.ft L.gl L.fuel (.ins i d e))) :=
  psImp (ps_expr (pe_bm PySem.F.plainAttrs_list PySem.F.slot_list_insert PySem.F.type_list_insert mt_insert (c_item hN hv hn) (pa_cons hd (pa_cons he pa_nil (star_cons ns2)) (star_cons ns)) (base_of rfl) (few2 ns ns2) hl (star_cons ns) (star_any (by simp [ns2]))) rfl) fun D σ H q => by
    obtain ⟨Hb, Z, env, a, h⟩ := q
    simp only [exS] at h
    split at h
    · exact h.elim
    · rename_i hm
      cases em : rdM i env with
      | none => rw [em] at hm; exact absurd rfl hm
      | some xs0 =>
        obtain ⟨a0, us0, ea, hH, _⟩ := a.re.mAt em
        refine ⟨.ref a0, sg_some ea, tyl (.inl (.inl hH)), Z, env, a.re, PostS.of a h fun r e1 Z1 H1 s1 h1 u g => ?_⟩
        obtain ⟨Z2, s2, du⟩ := s1.toV a.re g
        have a2 := a.step (s2.toS a.re)
        refine ⟨Z2, e1, s2.re, PostS.of a2 (h1.step (s2.toS a.re)) fun r2 e2 Z3 H3 s3 h3 v g3 => ?_⟩
        obtain ⟨Z4, s4, dv⟩ := s3.toV a2.re g3
        split at h3
        · rename_i kk xs ek ex
          obtain ⟨a1, us, ea1, hH1, da⟩ := s4.re.mAt ex
          rw [ea] at ea1
          cases ea1
          obtain ⟨hc, h3⟩ := iteS h3
          obtain rfl := dp_intv g ek
          obtain ⟨c0, c1, c2⟩ := hc
          have sz := szOk_of c2
          have ld := dpa_len da
          refine ⟨a0, us, kk, v, rfl, rfl, hH1, by omega, c0, by rw [sizeLine_eq] at sz; omega, ?_⟩
          refine h3 Z4 _ σ ((s4.trans (Stp.wrM (us := us.take kk.toNat ++ [v] ++ us.drop kk.toNat) s4.re ex ea ?_)).toS a2.re)
          rw [List.append_assoc]
          exact dpa_app (dpa_take _ da) (.cons dv (dpa_drop _ da))
        · exact h3.elim
end
end PL

/-! part PLChk -/
set_option Elab.async false
set_option linter.all false
set_option autoImplicit false
set_option maxRecDepth 100000
set_option maxHeartbeats 4000000
/-! does the term say what the text says? -/
namespace PL
open PySem PySem.Spec PyProof.Rows L2
structure Nm where
  fnm : List Str
  gnm : List Str
  kws : List (Nat × List Str × List Nat)
  tl : List Str := []
def Nm.off (M : Nm) : Nm := { M with tl := [] }
def kwNames : List Keyword → Option (List Str)
  | [] => some []
  | ⟨some x, _, _⟩ :: r => (kwNames r).map (x :: ·)
  | _ => none
def isRev : Op1 → Bool
  | .rev => true
  | _ => false
def nmOk (N : List Str) (sc : Scope) (i : Nat) (x : Str) : Bool := decide (N[i]? = some x) && (isVis sc x && okName x)
def shVar (N : List Str) (sc : Scope) (i : Nat) : Expr → Bool
  | .Name x _ => nmOk N sc i x
  | _ => false
def shNone : Expr → Bool
  | .Constant .none _ _ => true
  | _ => false
def shBool (b : Bool) : Expr → Bool
  | .Constant (.bool c) _ _ => b == c
  | _ => false
def shInt (i : Int) : Expr → Bool
  | .Constant (.int j) _ _ => decide (i = j)
  | _ => false
def shStr (s : Str) : Expr → Bool
  | .Constant (.str t) _ _ => decide (s = t)
  | _ => false
def shGlob (M : Nm) (sc : Scope) (k : Nat) : Expr → Bool
  | .Name x _ => decide (M.gnm[k]? = some x) && isGl sc x
  | _ => false
def shMeth (o : Op2) : Expr → Option (Expr × Expr)
  | .Call (.Attribute a' nm ap) [b'] [] cp => if (match o2meth o with
    | some nm' => decide (nm = nm')
    | none => false) && ((ap.endLine == cp.line) && (noCall0 a' && notStar b')) then some (a', b') else none
  | _ => none
def shChain (o1 o2 : Op2) : Expr → Option (Expr × Expr × Expr)
  | .Compare a' [p1, p2] [b', c'] _ => if decide (op2c o1 = some p1) && (decide (op2c o2 = some p2) && !lastMarks [p1, p2] [b', c']) then some (a', b', c') else none
  | _ => none
def shAnd : Expr → Option (Expr × Expr)
  | .BoolOp .And [a', b'] _ => some (a', b')
  | .BoolOp .And (a' :: b' :: c' :: rest) pos => some (a', .BoolOp .And (b' :: c' :: rest) pos)
  | _ => none
def shOr : Expr → Option (Expr × Expr)
  | .BoolOp .Or [a', b'] _ => some (a', b')
  | .BoolOp .Or (a' :: b' :: c' :: rest) pos => some (a', .BoolOp .Or (b' :: c' :: rest) pos)
  | _ => none
def shNot : Expr → Option Expr
  | .UnaryOp .Not a' _ => some a'
  | _ => none
def shIf : Expr → Option (Expr × Expr × Expr)
  | .IfExp c' a' b' _ => some (c', a', b')
  | _ => none
def shTup : Expr → Option (List Expr)
  | .Tuple es' _ _ => some es'
  | _ => none
def shLst : Expr → Option (List Expr)
  | .List es' _ => some es'
  | _ => none
def shSl : Expr → Option (Expr × Option Expr × Option Expr)
  | .Subscript a' (.Slice lo' hi' none _) _ => some (a', lo', hi')
  | _ => none
def shCall (M : Nm) (sc : Scope) (f : Nat) : Expr → Option (List Expr)
  | .Call (.Name x _) es' [] _ => if decide (M.fnm[f]? = some x) && (isGl sc x && es'.all notStar) then some es' else none
  | _ => none
def shCallIo (M : Nm) (N : List Str) (sc : Scope) (f i : Nat) : Expr → Option (List Expr)
  | .Call (.Name x _) (.Name y _ :: es') [] _ => if decide (M.fnm[f]? = some x) && (isGl sc x && (nmOk N sc i y && es'.all notStar)) then some es' else none
  | _ => none
def shCallK (M : Nm) (sc : Scope) (f : Nat) (perm : List Nat) : Expr → Option (List Keyword)
  | .Call (.Name x _) [] kws _ => if decide (M.fnm[f]? = some x) && (isGl sc x && (match kwNames kws with
    | some ks => decide ((f, ks, perm) ∈ M.kws) && decide (perm.length = ks.length)
    | none => false)) then some kws else none
  | _ => none
structure CompS where
  tg : Expr
  iter : Expr
  ifs : List Expr
  scope : Scope
  elt : Expr
def shComp (N : List Str) (sc : Scope) (own : List Nat) (p : Pat) : Expr → Option CompS
  | .ListComp elt [⟨tg, iter, ifs, 0⟩] scope _ => if blkC N sc scope (ownN N own) && (chkP N scope p tg && (p.sl.all own.contains && notSet iter)) then some ⟨tg, iter, ifs, scope, elt⟩ else none
  | _ => none
structure Comp2S where
  tg : Expr
  iter : Expr
  tg1 : Expr
  iter1 : Expr
  ifs : List Expr
  scope : Scope
  elt : Expr
def shComp2 (N : List Str) (sc : Scope) (own own2 : List Nat) (p p2 : Pat) : Expr → Option Comp2S
  | .ListComp elt [⟨tg, iter, [], 0⟩, ⟨tg1, iter1, ifs, 0⟩] scope _ =>
    if blkC N sc scope (ownN N own) && (chkP N scope p tg && (chkP N scope p2 tg1 && (p.sl.all own.contains && (p2.sl.all own2.contains && (own2.all own.contains && (notSet iter && notSet iter1)))))) then some ⟨tg, iter, tg1, iter1, ifs, scope, elt⟩ else none
  | _ => none
def shPop (N : List Str) (sc : Scope) (i : Nat) : Expr → Option Expr
  | .Call (.Attribute (.Name x _) nm ap) [a'] [] cp => if decide (nm = "pop") && (nmOk N sc i x && ((ap.endLine == cp.line) && notStar a')) then some a' else none
  | _ => none
def shRep : Expr → Option (List Expr × Expr)
  | .BinOp (.List es' _) .Mult n' _ => some (es', n')
  | _ => none
def shLenSet (sc : Scope) : Expr → Option Expr
  | .Call (.Name x _) [.Call (.Name y _) [a'] [] _] [] _ => if decide (x = "len") && (decide (y = "set") && (isGl sc x && (isGl sc y && notStar a'))) then some a' else none
  | _ => none
def shList1 (sc : Scope) (f : Str) : Expr → Option Expr
  | .Call (.Name x _) [.Call (.Name y _) [a'] [] _] [] _ => if decide (x = f) && (decide (y = "range") && (isGl sc x && (isGl sc y && notStar a'))) then some a' else none
  | _ => none
def shList2 (sc : Scope) (f : Str) : Expr → Option (Expr × Expr)
  | .Call (.Name x _) [.Call (.Name y _) [a', b'] [] _] [] _ => if decide (x = f) && (decide (y = "range") && (isGl sc x && (isGl sc y && (notStar a' && notStar b')))) then some (a', b') else none
  | _ => none
def shRng1 (sc : Scope) : Expr → Option Expr
  | .Call (.Name x _) [a'] [] _ => if decide (x = "range") && (isGl sc x && notStar a') then some a' else none
  | _ => none
def shRng2 (sc : Scope) : Expr → Option (Expr × Expr)
  | .Call (.Name x _) [a', b'] [] _ => if decide (x = "range") && (isGl sc x && (notStar a' && notStar b')) then some (a', b') else none
  | _ => none
def shRng3 (sc : Scope) : Expr → Option (Expr × Expr × Expr)
  | .Call (.Name x _) [a', b', c'] [] _ => if decide (x = "range") && (isGl sc x && (notStar a' && (notStar b' && notStar c'))) then some (a', b', c') else none
  | _ => none
def isTupE : Expr → Bool
  | .Tuple _ _ _ => true
  | _ => false
def shEnum (sc : Scope) (tg : Expr) : Expr → Option Expr
  | .Call (.Name x _) [a'] [] _ => if isTupE tg && (decide (x = "enumerate") && (isGl sc x && notStar a')) then some a' else none
  | _ => none
def shZip2 (sc : Scope) (tg : Expr) : Expr → Option (Expr × Expr)
  | .Call (.Name x _) [a', b'] [] _ => if isTupE tg && (decide (x = "zip") && (isGl sc x && (notStar a' && notStar b'))) then some (a', b') else none
  | _ => none
def shZip3 (sc : Scope) (tg : Expr) : Expr → Option (Expr × Expr × Expr)
  | .Call (.Name x _) [a', b', c'] [] _ => if isTupE tg && (decide (x = "zip") && (isGl sc x && (notStar a' && (notStar b' && notStar c')))) then some (a', b', c') else none
  | _ => none
def opt1 {α : Type} (o : Option α) (f : α → Bool) : Bool := match o with
  | some a => f a
  | none => false
def ifOne : List Expr → Option Expr
  | [c] => some c
  | _ => none
def shTold (M : Nm) (sc : Scope) (kd c : Nat) : Expr → Option (Scope × Expr)
  | .Call (.Name x _) [.Lambda params body scope _] [] _ => if decide (M.tl[kd]? = some x) && (decide (kd = 0) && (decide (c = 0) && (isGl sc x && (LamX.lamSB sc scope && emptyArgs params)))) then some (scope, body) else none
  | _ => none
/-- sorted(a, key=lambda x: b) -/
def shSortK (M : Nm) (N : List Str) (sc : Scope) (i : Nat) : Expr → Option (Expr × Scope × Expr)
  | .Call (.Name x _) [a'] [⟨some kw, .Lambda params body scope _, _⟩] _ => if decide (x = "sorted") && (decide (kw = "key") && (isGl sc x && (notStar a' && (!M.tl.isEmpty && (match N[i]? with
    | some y => lamPB sc scope y && oneArg params y
    | none => false))))) then some (a', scope, body) else none
  | _ => none
/-- a[::-1] -/
def shRev : Expr → Option Expr
  | .Subscript a' (.Slice none none (some (.UnaryOp .USub (.Constant (.int 1) _ _) _)) _) _ => some a'
  | _ => none
/-- sorted(set(a)) -/
def shSortSet (sc : Scope) : Expr → Option Expr
  | .Call (.Name x _) [.Call (.Name y _) [a'] [] _] [] _ => if decide (x = "sorted") && (decide (y = "set") && (isGl sc x && (isGl sc y && notStar a'))) then some a' else none
  | _ => none
/-- a in range(..) -/
def shInR : Expr → Option (Expr × Expr)
  | .Compare a' [.In] [.Call f as ks p] _ => some (a', .Call f as ks p)
  | _ => none
mutual
def chkE (M : Nm) (N : List Str) (sc : Scope) : E → Expr → Bool
  | .var i, a => shVar N sc i a
  | .none, a => shNone a
  | .bool b, a => shBool b a
  | .int i, a => shInt i a
  | .str s, a => shStr s a
  | .glob k, a => shGlob M sc k a
  | .op1 o x, a => if isRev o then opt1 (shRev a) fun a' => chkO M N sc x a' else opt1 (arg1 sc o a) fun a' => !isRev o && chkO M N sc x a'
  | .op2 o x y, a => opt1 (arg2 sc o a) fun q => chkO M N sc x q.1 && chkO M N sc y q.2
  | .meth o x y, a => opt1 (shMeth o a) fun q => chkO M N sc x q.1 && chkO M N sc y q.2
  | .chain o1 o2 x y z, a => opt1 (shChain o1 o2 a) fun q => chkE M N sc x q.1 && (chkE M N sc y q.2.1 && chkE M N sc z q.2.2)
  | .andE x y, a => opt1 (shAnd a) fun q => chkE M N sc x q.1 && chkE M N sc y q.2
  | .orE x y, a => opt1 (shOr a) fun q => chkE M N sc x q.1 && chkE M N sc y q.2
  | .notE x, a => opt1 (shNot a) fun q => chkE M N sc x q
  | .ifE x y z, a => opt1 (shIf a) fun q => chkE M N sc x q.1 && (chkE M N sc y q.2.1 && chkE M N sc z q.2.2)
  | .tup es, a => opt1 (shTup a) fun q => chkEs M N sc es q
  | .lst es, a => opt1 (shLst a) fun q => chkEs M N sc es q
  | .sl x lo hi, a => opt1 (shSl a) fun q => chkO M N sc x q.1 && (chkS M N sc lo q.2.1 && chkS M N sc hi q.2.2)
  | .call f es, a => opt1 (shCall M sc f a) fun q => chkEs M N sc es q
  | .callIo f i es, a => opt1 (shCallIo M N sc f i a) fun q => chkEs M N sc es q
  | .callK f perm es, a => opt1 (shCallK M sc f perm a) fun q => chkK M N sc es q
  | .comp own p it hc c e, a => opt1 (shComp N sc own p a) fun q => chkIt M N sc it q.tg q.iter && ((if hc then opt1 (ifOne q.ifs) fun c' => chkE M N (relS q.scope sc) c c' else q.ifs.isEmpty) && chkE M N (relS q.scope sc) e q.elt)
  | .comp2 own own2 p it p2 it2 hc c e, a => opt1 (shComp2 N sc own own2 p p2 a) fun q => chkIt M N sc it q.tg q.iter && (chkIt M N (relS q.scope sc) it2 q.tg1 q.iter1 && ((if hc then opt1 (ifOne q.ifs) fun c' => chkE M N (relS q.scope sc) c c' else q.ifs.isEmpty) && chkE M N (relS q.scope sc) e q.elt))
  | .pop i x, a => opt1 (shPop N sc i a) fun q => chkE M N sc x q
  | .repL es n, a => opt1 (shRep a) fun q => chkEs M N sc es q.1 && chkE M N sc n q.2
  | .sortSet x, a => opt1 (shSortSet sc a) fun q => chkO M N sc x q
  | .inR neg x it, a => if neg then false else opt1 (shInR a) fun q => chkE M N sc x q.1 && chkRg M N sc it q.2
  | .lenSet x, a => opt1 (shLenSet sc a) fun q => chkO M N sc x q
  | .listR it, a => chkR M N sc "list" it a
  | .tupR it, a => chkR M N sc "tuple" it a
  | .told kd c e, a => opt1 (shTold M sc kd c a) fun q => chkE M.off N q.1 e q.2
  | .sortK it i b, a => opt1 (shSortK M N sc i a) fun q => chkSrc M N sc it q.1 && chkE M.off N q.2.1 b q.2.2
  | _, _ => false
def chkO (M : Nm) (N : List Str) (sc : Scope) : O → Expr → Bool
  | .e x, a => chkE M N sc x a
  | .b i, a => shVar N sc i a
def chkS (M : Nm) (N : List Str) (sc : Scope) : SE → Option Expr → Bool
  | .no, a => a.isNone
  | .so e, a => opt1 a fun a' => chkE M N sc e a'
def chkEs (M : Nm) (N : List Str) (sc : Scope) : Es → List Expr → Bool
  | .nil, [] => true
  | .cons e es, a :: as => notStar a && (chkE M N sc e a && chkEs M N sc es as)
  | _, _ => false
def chkK (M : Nm) (N : List Str) (sc : Scope) : Es → List Keyword → Bool
  | .nil, [] => true
  | .cons e es, a :: as => chkE M N sc e a.value && chkK M N sc es as
  | _, _ => false
def chkR (M : Nm) (N : List Str) (sc : Scope) (f : Str) : It → Expr → Bool
  | .r1 x, a => opt1 (shList1 sc f a) fun q => chkE M N sc x q
  | .r2 x y, a => opt1 (shList2 sc f a) fun q => chkE M N sc x q.1 && chkE M N sc y q.2
  | _, _ => false
def chkSrc (M : Nm) (N : List Str) (sc : Scope) : It → Expr → Bool
  | .seq o, a => chkO M N sc o a
  | .r1 x, a => opt1 (shRng1 sc a) fun q => chkE M N sc x q
  | .r2 x y, a => opt1 (shRng2 sc a) fun q => chkE M N sc x q.1 && chkE M N sc y q.2
  | _, _ => false
def chkRg (M : Nm) (N : List Str) (sc : Scope) : It → Expr → Bool
  | .r1 x, a => opt1 (shRng1 sc a) fun q => chkE M N sc x q
  | .r2 x y, a => opt1 (shRng2 sc a) fun q => chkE M N sc x q.1 && chkE M N sc y q.2
  | _, _ => false
def chkIt (M : Nm) (N : List Str) (sc : Scope) : It → Expr → Expr → Bool
  | .r1 x, _, a => opt1 (shRng1 sc a) fun q => chkE M N sc x q
  | .r2 x y, _, a => opt1 (shRng2 sc a) fun q => chkE M N sc x q.1 && chkE M N sc y q.2
  | .r3 x y z, _, a => opt1 (shRng3 sc a) fun q => chkE M N sc x q.1 && (chkE M N sc y q.2.1 && chkE M N sc z q.2.2)
  | .seq o, _, a => chkO M N sc o a
  | .enum o, tg, a => opt1 (shEnum sc tg a) fun q => chkO M N sc o q
  | .zip x y, tg, a => opt1 (shZip2 sc tg a) fun q => chkO M N sc x q.1 && chkO M N sc y q.2
  | .zip3 x y z, tg, a => opt1 (shZip3 sc tg a) fun q => chkO M N sc x q.1 && (chkO M N sc y q.2.1 && chkO M N sc z q.2.2)
end
theorem opt1_of {α : Type} {o : Option α} {f : α → Bool} (h : opt1 o f = true) : ∃ a, o = some a ∧ f a = true := by
  cases o with
  | none => cases h
  | some a => exact ⟨a, rfl, h⟩
end PL

/-! part PLMas -/
set_option Elab.async false
set_option linter.all false
set_option autoImplicit false
set_option maxRecDepth 100000
set_option maxHeartbeats 4000000
/-! every term that says what the text says is worth what the text does -/
namespace PL
open PySem PySem.Spec PyProof.Rows L2
def Lk.nm (L : Lk) : Nm := ⟨L.fnm, L.gnm, L.kws, L.tl⟩
def Lk.off (L : Lk) : Lk := { L with tl := [] }
structure Fns (L : Lk) (CX : CXT) (k : Nat) (X : Cx) : Prop where
  fn : ∀ f x, L.fnm[f]? = some x → FnIn L CX k X f x
  tl : L.tl ≠ [] → TlX L CX k X
theorem Fns.blk {L : Lk} {CX : CXT} {k : Nat} {X : Cx} (h : Fns L CX k X) {scope : Scope} {s : Shared} {H : Hp} {cl : List (Str × Addr)} {C : Addr} {fp : List Addr} : Fns L CX k (Xb X s H scope cl C fp) := ⟨fun f x e => (h.fn f x e).blk, fun z => (h.tl z).blk⟩
theorem Cq.off {L : Lk} {CX : CXT} {k : Nat} {Ew : XK} {N : List Str} {sc : Scope} {X : Cx} (c : Cq L CX k Ew N sc X) : Cq L.off CX k Ew N sc X := ⟨c.sc, c.N, c.calm, c.room, c.nd, c.pass, c.cx0, c.blt, c.gl, c.tk⟩
theorem fns_off {L : Lk} {CX : CXT} {k : Nat} {X : Cx} (h : ∀ f x, L.fnm[f]? = some x → FnIn L CX k X f x) : Fns L.off CX k X := ⟨fun f x e => ⟨(h f x e).nd, (h f x e).ex⟩, fun z => absurd rfl z⟩
def isBoolOp : Expr → Bool
  | .BoolOp _ _ _ => true
  | _ => false
structure Snd (L : Lk) (Ew : XK) (X : Cx) (e : E) (a : Expr) : Prop where
  pe : PE X a (tE L X.K Ew e)
  pt : PT X a (tT L X.K Ew (evT L e))
  pw : isBoolOp a = true → PW X a (tT L X.K Ew (evT L e))
section
variable {L : Lk} {CX : CXT} {k : Nat} {Ew : XK} {N : List Str} {sc : Scope} {X : Cx} {a : Expr}
theorem Snd.plain {e : E} (h : PE X a (tE L X.K Ew e)) (p : plainTest a = true) : Snd L Ew X e a := ⟨h, test_plain p h, fun z => by cases a <;> first | (cases p; done) | (cases z; done)⟩
theorem Snd.cmp {e : E} (h : PE X a (tE L X.K Ew e)) (ht : PT X a (tT L X.K Ew (evT L e))) (p : isBoolOp a = false) : Snd L Ew X e a := ⟨h, ht, fun z => by rw [p] at z; cases z⟩
theorem pt_ifE {c b : Expr} {tc ta tb : TT} {pos : Pos} (hc : PT X c tc) (ha : PT X a ta) (hb : PT X b tb) : PT X (.IfExp c a b pos) (fun σ H Q => tc σ H fun k H1 => if k = true then ta σ H1 Q else tb σ H1 Q) := by
  refine ⟨fun pins s σ H Q I h => ?_⟩
  rw [arm_isTrue_IfExp]
  refine wpAny_bind (thn (hc.run pins s σ H _ I h) fun k s1 ⟨H1, I1, q1⟩ => ?_)
  cases k with
  | true => exact ha.run pins s1 σ H1 Q I1 q1
  | false => exact hb.run pins s1 σ H1 Q I1 q1
theorem t_if {x y z : E} {c b : Expr} {pos : Pos} (hc : PT X c (tT L X.K Ew (evT L x))) (ha : PT X a (tT L X.K Ew (evT L y))) (hb : PT X b (tT L X.K Ew (evT L z))) : PT X (.IfExp c a b pos) (tT L X.K Ew (evT L (.ifE x y z))) :=
  ptImp (pt_ifE hc ha hb) fun σ H Q q => by
    obtain ⟨Z, env, r0, h⟩ := q
    have e : evT L (.ifE x y z) env = (evT L x env).bind fun k e1 => if k = true then evT L y e1 else evT L z e1 := by
      show tst (evE L.ft L.gl (.ifE x y z) env) = _
      simp only [evE]
      show tst ((tst (evE L.ft L.gl x env)).bind _) = (tst (evE L.ft L.gl x env)).bind _
      cases tst (evE L.ft L.gl x env) with
      | ok k e1 => cases k <;> rfl
      | exc c s e1 => rfl
      | bad => rfl
    rw [e] at h
    refine ⟨Z, env, r0, h.bind fun k e1 Z1 H1 s1 h1 => ?_⟩
    cases k with
    | true =>
      rw [if_pos rfl] at h1 ⊢
      exact tailT s1 h1
    | false =>
      rw [if_neg (by decide)] at h1 ⊢
      exact tailT s1 h1
theorem nmOk_of (c : Cq L CX k Ew N sc X) {i : Nat} {x : Str} (h : nmOk N sc i x = true) : X.N[i]? = some x ∧ isVis X.env.scope x = true ∧ (x == ("__debug__" : Str)) = false ∧ (x == ("__classdict__" : Str)) = false ∧ okName x = true := by
  unfold nmOk at h
  simp only [Bool.and_eq_true, decide_eq_true_eq] at h
  have h2 := h.2.2
  unfold okName at h2
  simp only [Bool.and_eq_true, Bool.not_eq_true'] at h2
  exact ⟨by rw [c.N]; exact h.1, by rw [c.sc]; exact h.2.1, h2.1, h2.2, h.2.2⟩
theorem kwNames_of : ∀ {kws : List Keyword} {ks : List Str}, kwNames kws = some ks → kws.map (·.arg) = ks.map some
  | [], ks, h => by
    cases h
    rfl
  | ⟨none, _, _⟩ :: r, ks, h => by cases h
  | ⟨some x, e, p⟩ :: r, ks, h => by
    obtain ⟨ks', h1, rfl⟩ := optmap (show (kwNames r).map _ = some ks from h)
    rw [List.map_cons, List.map_cons, kwNames_of h1]
theorem op1_bool {o : Op1} {a' : Expr} (h : arg1 sc o a = some a') : isBoolOp a = false := by
  unfold arg1 at h
  split at h <;> first | rfl | cases h
theorem op2_bool {o : Op2} {q : Expr × Expr} (h : arg2 sc o a = some q) : isBoolOp a = false := by
  unfold arg2 at h
  split at h <;> first | rfl | cases h
theorem chkP_t {N : List Str} {sc : Scope} {p : Pat} {tg : Expr} (h : chkP N sc p tg = true) (t : isTupE tg = true) : p.isT = true := by
  cases p with
  | nm i =>
    cases tg <;> first | cases h | cases t
  | _ => rfl
theorem chkIt_pr {M : Nm} {N : List Str} {sc : Scope} {it : It} {tg a : Expr} (h : chkIt M N sc it tg a = true) (pr : it.pr = true) : isTupE tg = true := by
  cases it with
  | enum o =>
    simp only [chkIt] at h
    obtain ⟨q, e, _⟩ := opt1_of h
    unfold shEnum at e
    split at e
    · obtain ⟨z, _⟩ := itesome e
      rw [Bool.and_eq_true] at z
      exact z.1
    · cases e
  | zip x y =>
    simp only [chkIt] at h
    obtain ⟨q, e, _⟩ := opt1_of h
    unfold shZip2 at e
    split at e
    · obtain ⟨z, _⟩ := itesome e
      rw [Bool.and_eq_true] at z
      exact z.1
    · cases e
  | zip3 x y w =>
    simp only [chkIt] at h
    obtain ⟨q, e, _⟩ := opt1_of h
    unfold shZip3 at e
    split at e
    · obtain ⟨z, _⟩ := itesome e
      rw [Bool.and_eq_true] at z
      exact z.1
    · cases e
  | _ => cases pr
theorem comp_snd {own : List Nat} {p : Pat} {it : It} {hc : Bool} {cc e : E} (c : Cq L CX k Ew N sc X) (F : Fns L CX k X) (h : chkE L.nm N sc (.comp own p it hc cc e) a = true) (sI : ∀ {tg a : Expr}, chkIt L.nm N sc it tg a = true → PI X tg a (tI L X.K Ew it))
    (sE : ∀ {Ew : XK} {N : List Str} {sc : Scope} {X : Cx} {a : Expr}, Cq L CX k Ew N sc X → Fns L CX k X → chkE L.nm N sc e a = true → Snd L Ew X e a) (sC : ∀ {Ew : XK} {N : List Str} {sc : Scope} {X : Cx} {a : Expr}, Cq L CX k Ew N sc X → Fns L CX k X → chkE L.nm N sc cc a = true → Snd L Ew X cc a) :
    Snd L Ew X (.comp own p it hc cc e) a ∧
    ∀ {i : Nat} {y : Str} {py spos : Pos}, X.N[i]? = some y → X.env.scope.names.lookup y = some .local → swapsWith a (some (.Name y py)) spos.line X.env = pure true → PS X (.Assign [.Name y py] a spos) (tAsg (tE L X.K Ew (.comp own p it hc cc e)) (gName i)) := by
  simp only [chkE] at h
  replace h := opt1_of h
  obtain ⟨q, ea, h⟩ := h
  simp only [Bool.and_eq_true] at h
  obtain ⟨h1, h2, h3⟩ := h
  unfold shComp at ea
  split at ea
  · rename_i elt tg iter ifs scope pos
    obtain ⟨z, ea⟩ := itesome ea
    cases ea
    dsimp only at h1 h2 h3
    simp only [Bool.and_eq_true] at z
    obtain ⟨z1, z2, z3, z4⟩ := z
    have hi := sI (tg := tg) h1
    have hsub : ∀ j ∈ p.sl, j ∈ own := fun j hj => by
      rw [List.all_eq_true] at z3
      exact List.contains_iff_mem.mp (z3 j hj)
    have main := c_comp (hc := hc) (c := cc) (e := e) (pos := pos) (ifs := ifs) (elt := elt) c z1 z2 (fun pr => chkP_t z2 (chkIt_pr h1 pr)) hsub hi (fun s H C cl fp => by
      cases hc with
      | true =>
        rw [if_pos rfl] at h2
        replace h2 := opt1_of h2
        obtain ⟨c', e1, h2⟩ := h2
        unfold ifOne at e1
        split at e1
        · cases e1
          exact pts_one (sC (c.blk (s := s) (H := H) (cl := cl) (C := C) (fp := fp) (scope := scope)) F.blk h2).pt
        · cases e1
      | false =>
        rw [if_neg (by decide)] at h2
        have : ifs = [] := by simpa using h2
        subst this
        refine ⟨fun pins s σ H Q I q => pts_nil.run pins s σ H Q I ?_⟩
        obtain ⟨Z, env, r0, q⟩ := q
        exact q Z H (Stp.refl r0)) (fun s H C cl fp => (sE (c.blk (s := s) (H := H) (cl := cl) (C := C) (fp := fp) (scope := scope)) F.blk h3).pe) z4
    exact ⟨.plain main.1 rfl, main.2⟩
  · cases ea
theorem comp2_snd {own own2 : List Nat} {p p2 : Pat} {it it2 : It} {hc : Bool} {cc e : E} (c : Cq L CX k Ew N sc X) (F : Fns L CX k X) (h : chkE L.nm N sc (.comp2 own own2 p it p2 it2 hc cc e) a = true) (sI : ∀ {tg a : Expr}, chkIt L.nm N sc it tg a = true → PI X tg a (tI L X.K Ew it))
    (sI2 : ∀ {Ew : XK} {N : List Str} {sc : Scope} {X : Cx} {tg a : Expr}, Cq L CX k Ew N sc X → Fns L CX k X → chkIt L.nm N sc it2 tg a = true → PI X tg a (tI L X.K Ew it2))
    (sE : ∀ {Ew : XK} {N : List Str} {sc : Scope} {X : Cx} {a : Expr}, Cq L CX k Ew N sc X → Fns L CX k X → chkE L.nm N sc e a = true → Snd L Ew X e a) (sC : ∀ {Ew : XK} {N : List Str} {sc : Scope} {X : Cx} {a : Expr}, Cq L CX k Ew N sc X → Fns L CX k X → chkE L.nm N sc cc a = true → Snd L Ew X cc a) :
    Snd L Ew X (.comp2 own own2 p it p2 it2 hc cc e) a ∧
    ∀ {i : Nat} {y : Str} {py spos : Pos}, X.N[i]? = some y → X.env.scope.names.lookup y = some .local → swapsWith a (some (.Name y py)) spos.line X.env = pure true → PS X (.Assign [.Name y py] a spos) (tAsg (tE L X.K Ew (.comp2 own own2 p it p2 it2 hc cc e)) (gName i)) := by
  simp only [chkE] at h
  replace h := opt1_of h
  obtain ⟨q, ea, h⟩ := h
  simp only [Bool.and_eq_true] at h
  obtain ⟨h1, h4, h2, h3⟩ := h
  unfold shComp2 at ea
  split at ea
  · rename_i elt tg iter tg1 iter1 ifs scope pos
    obtain ⟨z, ea⟩ := itesome ea
    cases ea
    dsimp only at h1 h2 h3 h4
    simp only [Bool.and_eq_true] at z
    obtain ⟨z1, z2, z3, z4, z5, z6, z7, z8⟩ := z
    have hi := sI (tg := tg) h1
    have sb : ∀ {l m : List Nat}, l.all m.contains = true → ∀ j ∈ l, j ∈ m := fun h j hj => List.contains_iff_mem.mp (List.all_eq_true.mp h j hj)
    have main := c_comp2 (hc := hc) (c := cc) (e := e) (pos := pos) (ifs := ifs) (elt := elt) c z1 z2 z3 (fun pr => chkP_t z2 (chkIt_pr h1 pr)) (fun pr => chkP_t z3 (chkIt_pr h4 pr)) (sb z4) (sb z5) (sb z6) hi (fun s H C cl fp => sI2 (c.blk (s := s) (H := H) (cl := cl) (C := C) (fp := fp) (scope := scope)) F.blk h4) (fun s H C cl fp => by
      cases hc with
      | true =>
        rw [if_pos rfl] at h2
        replace h2 := opt1_of h2
        obtain ⟨c', e1, h2⟩ := h2
        unfold ifOne at e1
        split at e1
        · cases e1
          exact pts_one (sC (c.blk (s := s) (H := H) (cl := cl) (C := C) (fp := fp) (scope := scope)) F.blk h2).pt
        · cases e1
      | false =>
        rw [if_neg (by decide)] at h2
        have : ifs = [] := by simpa using h2
        subst this
        refine ⟨fun pins s σ H Q I q => pts_nil.run pins s σ H Q I ?_⟩
        obtain ⟨Z, env, r0, q⟩ := q
        exact q Z H (Stp.refl r0)) (fun s H C cl fp => (sE (c.blk (s := s) (H := H) (cl := cl) (C := C) (fp := fp) (scope := scope)) F.blk h3).pe) z7 z8
    exact ⟨.plain main.1 rfl, main.2⟩
  · cases ea
theorem bd' {a b : Bool} (h : (a && b) = true) : a = true ∧ b = true := Bool.and_eq_true_iff.mp h
mutual
theorem snd_E : ∀ (e : E) {L : Lk} {CX : CXT} {k : Nat} {Ew : XK} {N : List Str} {sc : Scope} {X : Cx} {a : Expr}, Cq L CX k Ew N sc X → Fns L CX k X → chkE L.nm N sc e a = true → Snd L Ew X e a
  | .var i, L, CX, k, Ew, N, sc, X, a, c, F, h => by
    simp only [chkE] at h
    cases a with
    | Name x pos =>
      obtain ⟨h1, h2, h3, h4, _⟩ := nmOk_of c (show nmOk N sc i x = true from h)
      refine .plain ?_ rfl
      have := c_var (L := L) (Ew := Ew) (pos := pos) h1 h2 h3 h4
      unfold tE
      exact peImp this fun σ H Q q => by simp only [evE] at q; exact q
    | _ => cases h
  | .none, L, CX, k, Ew, N, sc, X, a, c, F, h => by
    simp only [chkE] at h
    unfold shNone at h
    split at h
    · refine .plain ?_ rfl
      unfold tE
      exact peImp (c_const (L := L) (Ew := Ew) pe_non fun Z => .non) fun σ H Q q => by simp only [evE] at q; exact q
    · cases h
  | .bool b, L, CX, k, Ew, N, sc, X, a, c, F, h => by
    simp only [chkE] at h
    unfold shBool at h
    split at h
    · rename_i c' _ _
      have : b = c' := by simpa using h
      subst this
      refine .plain ?_ rfl
      unfold tE
      exact peImp (c_const (L := L) (Ew := Ew) pe_bl fun Z => .bl b) fun σ H Q q => by simp only [evE] at q; exact q
    · cases h
  | .int i, L, CX, k, Ew, N, sc, X, a, c, F, h => by
    simp only [chkE] at h
    unfold shInt at h
    split at h
    · have := of_decide_eq_true h
      subst this
      refine .plain ?_ rfl
      unfold tE
      exact peImp (c_const (L := L) (Ew := Ew) pe_int fun Z => .int _) fun σ H Q q => by simp only [evE] at q; exact q
    · cases h
  | .str i, L, CX, k, Ew, N, sc, X, a, c, F, h => by
    simp only [chkE] at h
    unfold shStr at h
    split at h
    · have := of_decide_eq_true h
      subst this
      refine .plain ?_ rfl
      unfold tE
      exact peImp (c_const (L := L) (Ew := Ew) pe_str fun Z => .str _) fun σ H Q q => by simp only [evE] at q; exact q
    · cases h
  | .glob j, L, CX, k, Ew, N, sc, X, a, c, F, h => by
    simp only [chkE] at h
    unfold shGlob at h
    split at h
    · simp only [Bool.and_eq_true, decide_eq_true_eq] at h
      refine .plain ?_ rfl
      unfold tE
      exact peImp (c_glob (Ew := Ew) c h.1 h.2) fun σ H Q q => by simp only [evE] at q; exact q
    · cases h
  | .op1 o x, L, CX, k, Ew, N, sc, X, a, c, F, h => by
    simp only [chkE] at h
    split at h
    · rename_i ho
      replace h := opt1_of h
      obtain ⟨a', e, h⟩ := h
      have hx := snd_O x c F h
      have ho : o = .rev := by cases o <;> first | rfl | cases ho
      subst ho
      unfold shRev at e
      split at e
      · cases e
        exact .plain (c_rev c hx) rfl
      · cases e
    replace h := opt1_of h
    obtain ⟨a', e, h⟩ := h
    rw [Bool.and_eq_true] at h
    have ho : o ≠ .rev := fun z => by subst z; cases h.1
    have hx := snd_O x c F h.2
    exact .cmp (c_op1 c e ho hx) (t_op1 c e ho hx) (op1_bool e)
  | .op2 o x y, L, CX, k, Ew, N, sc, X, a, c, F, h => by
    simp only [chkE] at h
    replace h := opt1_of h
    obtain ⟨⟨a', b'⟩, e, h⟩ := h
    rw [Bool.and_eq_true] at h
    have hx := snd_O x c F h.1
    have hy := snd_O y c F h.2
    exact .cmp (c_op2 c e hx hy) (t_op2 c e hx hy) (op2_bool e)
  | .meth o x y, L, CX, k, Ew, N, sc, X, a, c, F, h => by
    simp only [chkE] at h
    replace h := opt1_of h
    obtain ⟨⟨a', b'⟩, e, h⟩ := h
    rw [Bool.and_eq_true] at h
    have hx := snd_O x c F h.1
    have hy := snd_O y c F h.2
    unfold shMeth at e
    split at e
    · obtain ⟨z, e⟩ := itesome e
      cases e
      simp only [Bool.and_eq_true] at z
      obtain ⟨z1, z2, z3, z4⟩ := z
      cases em : o2meth o with
      | none => rw [em] at z1; cases z1
      | some nm' =>
        rw [em] at z1
        have := of_decide_eq_true z1
        subst this
        exact .plain (c_meth c em z2 z3 z4 hx hy) rfl
    · cases e
  | .chain o1 o2 x y z, L, CX, k, Ew, N, sc, X, a, c, F, h => by
    simp only [chkE] at h
    replace h := opt1_of h
    obtain ⟨⟨a', b', c'⟩, e, h⟩ := h
    simp only [Bool.and_eq_true] at h
    have hx := (snd_E x c F h.1).pe
    have hy := (snd_E y c F h.2.1).pe
    have hz := (snd_E z c F h.2.2).pe
    unfold shChain at e
    split at e
    · obtain ⟨q, e⟩ := itesome e
      cases e
      simp only [Bool.and_eq_true, decide_eq_true_eq, Bool.not_eq_true'] at q
      exact .cmp (c_chain c q.1 q.2.1 q.2.2 hx hy hz) (t_chain c q.1 q.2.1 q.2.2 hx hy hz) rfl
    · cases e
  | .andE x y, L, CX, k, Ew, N, sc, X, a, c, F, h => by
    simp only [chkE] at h
    replace h := opt1_of h
    obtain ⟨⟨a', b'⟩, e, h⟩ := h
    simp only [Bool.and_eq_true] at h
    have hx := snd_E x c F h.1
    have hy := snd_E y c F h.2
    unfold shAnd at e
    split at e
    · cases e
      exact ⟨c_and hx.pe (pe_one hy.pe), (t_and hx.pt (pw_and1 hy.pt)).pt, fun _ => t_and hx.pt (pw_and1 hy.pt)⟩
    · cases e
      exact ⟨c_and hx.pe hy.pe, (t_and hx.pt (hy.pw rfl)).pt, fun _ => t_and hx.pt (hy.pw rfl)⟩
    · cases e
  | .orE x y, L, CX, k, Ew, N, sc, X, a, c, F, h => by
    simp only [chkE] at h
    replace h := opt1_of h
    obtain ⟨⟨a', b'⟩, e, h⟩ := h
    simp only [Bool.and_eq_true] at h
    have hx := snd_E x c F h.1
    have hy := snd_E y c F h.2
    unfold shOr at e
    split at e
    · cases e
      exact ⟨c_or hx.pe (pe_one hy.pe), (t_or hx.pt (pw_or1 hy.pt)).pt, fun _ => t_or hx.pt (pw_or1 hy.pt)⟩
    · cases e
      exact ⟨c_or hx.pe hy.pe, (t_or hx.pt (hy.pw rfl)).pt, fun _ => t_or hx.pt (hy.pw rfl)⟩
    · cases e
  | .notE x, L, CX, k, Ew, N, sc, X, a, c, F, h => by
    simp only [chkE] at h
    replace h := opt1_of h
    obtain ⟨a', e, h⟩ := h
    have hx := snd_E x c F h
    unfold shNot at e
    split at e
    · cases e
      exact .cmp (c_not hx.pe) (t_not hx.pt) rfl
    · cases e
  | .ifE x y z, L, CX, k, Ew, N, sc, X, a, c, F, h => by
    simp only [chkE] at h
    replace h := opt1_of h
    obtain ⟨⟨a', b', c'⟩, e, h⟩ := h
    simp only [Bool.and_eq_true] at h
    have hx := snd_E x c F h.1
    have hy := snd_E y c F h.2.1
    have hz := snd_E z c F h.2.2
    unfold shIf at e
    split at e
    · cases e
      exact .cmp (c_if hx.pt hy.pe hz.pe) (t_if hx.pt hy.pt hz.pt) rfl
    · cases e
  | .tup es, L, CX, k, Ew, N, sc, X, a, c, F, h => by
    simp only [chkE] at h
    replace h := opt1_of h
    obtain ⟨es', e, h⟩ := h
    unfold shTup at e
    split at e
    · cases e
      exact .plain (c_tup (snd_Es es c F h).1) rfl
    · cases e
  | .lst es, L, CX, k, Ew, N, sc, X, a, c, F, h => by
    simp only [chkE] at h
    replace h := opt1_of h
    obtain ⟨es', e, h⟩ := h
    unfold shLst at e
    split at e
    · cases e
      exact .plain (c_lst (snd_Es es c F h).1) rfl
    · cases e
  | .sl x lo hi, L, CX, k, Ew, N, sc, X, a, c, F, h => by
    simp only [chkE] at h
    replace h := opt1_of h
    obtain ⟨⟨a', lo', hi'⟩, e, h⟩ := h
    simp only [Bool.and_eq_true] at h
    unfold shSl at e
    split at e
    · cases e
      exact .plain (c_sl (snd_O x c F h.1) (snd_S lo c F h.2.1) (snd_S hi c F h.2.2)) rfl
    · cases e
  | .call f es, L, CX, k, Ew, N, sc, X, a, c, F, h => by
    simp only [chkE] at h
    replace h := opt1_of h
    obtain ⟨es', e, h⟩ := h
    unfold shCall at e
    split at e
    · obtain ⟨q, e⟩ := itesome e
      cases e
      simp only [Bool.and_eq_true, decide_eq_true_eq] at q
      refine .plain ?_ rfl
      cases es' with
      | nil =>
        cases es with
        | nil => exact c_call0 c (F.fn f _ q.1) q.2.1
        | cons e es => simp only [chkEs] at h; cases h
      | cons b bs => exact c_call c (F.fn f _ q.1) q.2.1 q.2.2 (snd_Es es c F h).1
    · cases e
  | .callIo f i es, L, CX, k, Ew, N, sc, X, a, c, F, h => by
    simp only [chkE] at h
    replace h := opt1_of h
    obtain ⟨es', e, h⟩ := h
    unfold shCallIo at e
    split at e
    · obtain ⟨q, e⟩ := itesome e
      cases e
      simp only [Bool.and_eq_true, decide_eq_true_eq] at q
      obtain ⟨h1, h2, h3, h4, _⟩ := nmOk_of c q.2.2.1
      exact .plain (c_callIo c (F.fn f _ q.1) q.2.1 h1 h2 h3 h4 q.2.2.2 (snd_Es es c F h).1) rfl
    · cases e
  | .callK f perm es, L, CX, k, Ew, N, sc, X, a, c, F, h => by
    simp only [chkE] at h
    replace h := opt1_of h
    obtain ⟨kws, e, h⟩ := h
    unfold shCallK at e
    split at e
    · obtain ⟨q, e⟩ := itesome e
      cases e
      simp only [Bool.and_eq_true, decide_eq_true_eq] at q
      cases ek : kwNames kws with
      | none => rw [ek] at q; exact absurd q.2.2 (by simp)
      | some ks =>
        rw [ek] at q
        have q3 : decide ((f, ks, perm) ∈ L.nm.kws) = true ∧ decide (perm.length = ks.length) = true := by
          have := q.2.2
          simpa [Bool.and_eq_true] using this
        exact .plain (c_callK c (F.fn f _ q.1) q.2.1 (kwNames_of ek) (of_decide_eq_true q3.1) (of_decide_eq_true q3.2) (snd_K es c F h)) rfl
    · cases e
  | .comp own p it hc cc e, L, CX, k, Ew, N, sc, X, a, c, F, h => (comp_snd c F h (fun h => snd_It it c F h) (fun c F h => snd_E e c F h) (fun c F h => snd_E cc c F h)).1
  | .pop i x, L, CX, k, Ew, N, sc, X, a, c, F, h => by
    simp only [chkE] at h
    replace h := opt1_of h
    obtain ⟨a', e, h⟩ := h
    have hx := snd_E x c F h
    unfold shPop at e
    split at e
    · obtain ⟨q, e⟩ := itesome e
      cases e
      simp only [Bool.and_eq_true, decide_eq_true_eq] at q
      obtain ⟨rfl, q2, q3, q4⟩ := q
      obtain ⟨h1, h2, h3, h4, _⟩ := nmOk_of c q2
      exact .plain (c_pop h1 h2 h3 h4 q3 q4 hx.pe) rfl
    · cases e
  | .repL es n, L, CX, k, Ew, N, sc, X, a, c, F, h => by
    simp only [chkE] at h
    replace h := opt1_of h
    obtain ⟨⟨es', n'⟩, e, h⟩ := h
    simp only [Bool.and_eq_true] at h
    unfold shRep at e
    split at e
    · cases e
      exact .plain (c_rep (snd_Es es c F h.1).1 (snd_E n c F h.2).pe) rfl
    · cases e
  | .lenSet x, L, CX, k, Ew, N, sc, X, a, c, F, h => by
    simp only [chkE] at h
    replace h := opt1_of h
    obtain ⟨a', e, h⟩ := h
    have hx := snd_O x c F h
    unfold shLenSet at e
    split at e
    · obtain ⟨q, e⟩ := itesome e
      cases e
      simp only [Bool.and_eq_true, decide_eq_true_eq] at q
      obtain ⟨rfl, rfl, q1, q2, q3⟩ := q
      exact .plain (c_lenSet c q1 q2 q3 hx) rfl
    · cases e
  | .listR it, L, CX, k, Ew, N, sc, X, a, c, F, h => by
    simp only [chkE] at h
    exact snd_R it c F h
  | .tupR it, L, CX, k, Ew, N, sc, X, a, c, F, h => by
    simp only [chkE] at h
    exact snd_RT it c F h
  | .comp2 own own2 p it p2 it2 hc cc e, L, CX, k, Ew, N, sc, X, a, c, F, h => (comp2_snd c F h (fun h => snd_It it c F h) (fun c F h => snd_It it2 c F h) (fun c F h => snd_E e c F h) (fun c F h => snd_E cc c F h)).1
  | .inR neg x it, L, CX, k, Ew, N, sc, X, a, c, F, h => by
    simp only [chkE] at h
    cases neg with
    | true => simp at h
    | false =>
      replace h := opt1_of (show opt1 (shInR a) _ = true from h)
      obtain ⟨q, e, h⟩ := h
      rw [Bool.and_eq_true] at h
      unfold shInR at e
      split at e
      · cases e
        have hx := snd_E x c F h.1
        have hr := snd_Rg it c F h.2
        exact .cmp (c_inR rfl hx.pe hr) (t_inR rfl hx.pe hr) rfl
      · cases e
  | .minK .., L, CX, k, Ew, N, sc, X, a, c, F, h => by simp [chkE] at h
  | .sortSet x, L, CX, k, Ew, N, sc, X, a, c, F, h => by
    simp only [chkE] at h
    replace h := opt1_of h
    obtain ⟨a', e, h⟩ := h
    have hx := snd_O x c F h
    unfold shSortSet at e
    split at e
    · obtain ⟨q, e⟩ := itesome e
      cases e
      simp only [Bool.and_eq_true, decide_eq_true_eq] at q
      obtain ⟨rfl, rfl, q1, q2, q3⟩ := q
      exact .plain (c_sortSet c q1 q2 q3 hx) rfl
    · cases e
  | .inD .., L, CX, k, Ew, N, sc, X, a, c, F, h => by simp [chkE] at h
  | .ixD .., L, CX, k, Ew, N, sc, X, a, c, F, h => by simp [chkE] at h
  | .sortK it i b, L, CX, k, Ew, N, sc, X, a, c, F, h => by
    simp only [chkE] at h
    replace h := opt1_of h
    obtain ⟨q, e1, h⟩ := h
    rw [Bool.and_eq_true] at h
    unfold shSortK at e1
    split at e1
    · obtain ⟨z, e1⟩ := itesome e1
      cases e1
      simp only [Bool.and_eq_true, decide_eq_true_eq, Bool.not_eq_true'] at z
      obtain ⟨rfl, rfl, z3, z4, z5, z6⟩ := z
      cases hi : N[i]? with
      | none => rw [hi] at z6; cases z6
      | some y =>
        rw [hi] at z6
        replace z6 := bd' z6
        have hne : L.tl ≠ [] := fun y => by
          have z5' : L.tl.isEmpty = false := z5
          rw [y] at z5'
          cases z5'
        exact .plain (c_sortK c (F.tl hne) z3 z4 (snd_Src it c F h.1) z6.1 z6.2 hi fun k2 E X' c' F' => (snd_E b c'.off (fns_off F') h.2).pe) rfl
    · cases e1
  | .told kd d e, L, CX, k, Ew, N, sc, X, a, c, F, h => by
    simp only [chkE] at h
    replace h := opt1_of h
    obtain ⟨q, e1, h⟩ := h
    unfold shTold at e1
    split at e1
    · obtain ⟨z, e1⟩ := itesome e1
      cases e1
      simp only [Bool.and_eq_true, decide_eq_true_eq] at z
      obtain ⟨z1, z2, z3, z4, z5, z6⟩ := z
      subst z2 z3
      have hne : L.tl ≠ [] := fun y => by
        have z1' : L.tl[0]? = some _ := z1
        rw [y] at z1'
        cases z1'
      exact .plain (c_told c (F.tl hne) z1 z4 z5 z6 fun k2 E X' c' F' => (snd_E e c'.off (fns_off F') h).pe) rfl
    · cases e1
theorem snd_O : ∀ (o : O) {L : Lk} {CX : CXT} {k : Nat} {Ew : XK} {N : List Str} {sc : Scope} {X : Cx} {a : Expr}, Cq L CX k Ew N sc X → Fns L CX k X → chkO L.nm N sc o a = true → PE X a (tO L X.K Ew o)
  | .e x, L, CX, k, Ew, N, sc, X, a, c, F, h => by
    simp only [chkO] at h
    exact c_operand (snd_E x c F h).pe
  | .b i, L, CX, k, Ew, N, sc, X, a, c, F, h => by
    simp only [chkO] at h
    cases a with
    | Name x pos =>
      obtain ⟨h1, h2, h3, h4, _⟩ := nmOk_of c (show nmOk N sc i x = true from h)
      exact c_borrow h1 h2 h3 h4
    | _ => cases h
theorem snd_S : ∀ (o : SE) {L : Lk} {CX : CXT} {k : Nat} {Ew : XK} {N : List Str} {sc : Scope} {X : Cx} {a : Option Expr}, Cq L CX k Ew N sc X → Fns L CX k X → chkS L.nm N sc o a = true → PO X a (tS L X.K Ew o)
  | .no, L, CX, k, Ew, N, sc, X, a, c, F, h => by
    simp only [chkS] at h
    cases a with
    | none => exact c_no
    | some a => cases h
  | .so e, L, CX, k, Ew, N, sc, X, a, c, F, h => by
    simp only [chkS] at h
    replace h := opt1_of h
    obtain ⟨a', e1, h⟩ := h
    subst e1
    exact c_so (snd_E e c F h).pe
theorem snd_Es : ∀ (es : Es) {L : Lk} {CX : CXT} {k : Nat} {Ew : XK} {N : List Str} {sc : Scope} {X : Cx} {as : List Expr}, Cq L CX k Ew N sc X → Fns L CX k X → chkEs L.nm N sc es as = true → PA X as (tEs L X.K Ew es) ∧ ∀ ms : List Bool, PA X as (tRs L X.K Ew ms es) ∨ True
  | .nil, L, CX, k, Ew, N, sc, X, as, c, F, h => by
    cases as with
    | nil => exact ⟨c_nil, fun _ => .inr trivial⟩
    | cons a as => simp only [chkEs] at h; cases h
  | .cons e es, L, CX, k, Ew, N, sc, X, as, c, F, h => by
    cases as with
    | nil => simp only [chkEs] at h; cases h
    | cons a as =>
      simp only [chkEs, Bool.and_eq_true] at h
      exact ⟨c_cons h.1 (snd_E e c F h.2.1).pe (snd_Es es c F h.2.2).1, fun _ => .inr trivial⟩
theorem snd_K : ∀ (es : Es) {L : Lk} {CX : CXT} {k : Nat} {Ew : XK} {N : List Str} {sc : Scope} {X : Cx} {as : List Keyword}, Cq L CX k Ew N sc X → Fns L CX k X → chkK L.nm N sc es as = true → PK X as (tEs L X.K Ew es)
  | .nil, L, CX, k, Ew, N, sc, X, as, c, F, h => by
    cases as with
    | nil => exact k_nil
    | cons a as => simp only [chkK] at h; cases h
  | .cons e es, L, CX, k, Ew, N, sc, X, as, c, F, h => by
    cases as with
    | nil => simp only [chkK] at h; cases h
    | cons a as =>
      cases a with
      | mk nm v p =>
        simp only [chkK, Bool.and_eq_true] at h
        exact k_cons (snd_E e c F h.1).pe (snd_K es c F h.2)
theorem snd_Rg : ∀ (it : It) {L : Lk} {CX : CXT} {k : Nat} {Ew : XK} {N : List Str} {sc : Scope} {X : Cx} {a : Expr}, Cq L CX k Ew N sc X → Fns L CX k X → chkRg L.nm N sc it a = true → PE X a (tRg L X.K Ew it)
  | .seq .., L, CX, k, Ew, N, sc, X, a, c, F, h => by simp [chkRg] at h
  | .r1 x, L, CX, k, Ew, N, sc, X, a, c, F, h => by
    simp only [chkRg] at h
    replace h := opt1_of h
    obtain ⟨a', e, h⟩ := h
    unfold shRng1 at e
    split at e
    · obtain ⟨q, e⟩ := itesome e
      cases e
      simp only [Bool.and_eq_true, decide_eq_true_eq] at q
      obtain ⟨rfl, q2, q3⟩ := q
      exact rg_r1 c q2 q3 (snd_E x c F h).pe
    · cases e
  | .r2 x y, L, CX, k, Ew, N, sc, X, a, c, F, h => by
    simp only [chkRg] at h
    replace h := opt1_of h
    obtain ⟨⟨a', b'⟩, e, h⟩ := h
    rw [Bool.and_eq_true] at h
    unfold shRng2 at e
    split at e
    · obtain ⟨q, e⟩ := itesome e
      cases e
      simp only [Bool.and_eq_true, decide_eq_true_eq] at q
      obtain ⟨rfl, q2, q3, q4⟩ := q
      exact rg_r2 c q2 q3 q4 (snd_E x c F h.1).pe (snd_E y c F h.2).pe
    · cases e
  | .r3 .., L, CX, k, Ew, N, sc, X, a, c, F, h => by simp [chkRg] at h
  | .enum .., L, CX, k, Ew, N, sc, X, a, c, F, h => by simp [chkRg] at h
  | .zip .., L, CX, k, Ew, N, sc, X, a, c, F, h => by simp [chkRg] at h
  | .zip3 .., L, CX, k, Ew, N, sc, X, a, c, F, h => by simp [chkRg] at h
theorem snd_Src : ∀ (it : It) {L : Lk} {CX : CXT} {k : Nat} {Ew : XK} {N : List Str} {sc : Scope} {X : Cx} {a : Expr}, Cq L CX k Ew N sc X → Fns L CX k X → chkSrc L.nm N sc it a = true → PE X a (tSrc L X.K Ew it)
  | .seq o, L, CX, k, Ew, N, sc, X, a, c, F, h => by
    simp only [chkSrc] at h
    exact src_seq (snd_O o c F h)
  | .r1 x, L, CX, k, Ew, N, sc, X, a, c, F, h => by
    simp only [chkSrc] at h
    replace h := opt1_of h
    obtain ⟨a', e, h⟩ := h
    unfold shRng1 at e
    split at e
    · obtain ⟨q, e⟩ := itesome e
      cases e
      simp only [Bool.and_eq_true, decide_eq_true_eq] at q
      obtain ⟨rfl, q2, q3⟩ := q
      exact src_r1 c q2 q3 (snd_E x c F h).pe
    · cases e
  | .r2 x y, L, CX, k, Ew, N, sc, X, a, c, F, h => by
    simp only [chkSrc] at h
    replace h := opt1_of h
    obtain ⟨⟨a', b'⟩, e, h⟩ := h
    rw [Bool.and_eq_true] at h
    unfold shRng2 at e
    split at e
    · obtain ⟨q, e⟩ := itesome e
      cases e
      simp only [Bool.and_eq_true, decide_eq_true_eq] at q
      obtain ⟨rfl, q2, q3, q4⟩ := q
      exact src_r2 c q2 q3 q4 (snd_E x c F h.1).pe (snd_E y c F h.2).pe
    · cases e
  | .r3 .., L, CX, k, Ew, N, sc, X, a, c, F, h => by simp [chkSrc] at h
  | .enum .., L, CX, k, Ew, N, sc, X, a, c, F, h => by simp [chkSrc] at h
  | .zip .., L, CX, k, Ew, N, sc, X, a, c, F, h => by simp [chkSrc] at h
  | .zip3 .., L, CX, k, Ew, N, sc, X, a, c, F, h => by simp [chkSrc] at h
theorem snd_R : ∀ (it : It) {L : Lk} {CX : CXT} {k : Nat} {Ew : XK} {N : List Str} {sc : Scope} {X : Cx} {a : Expr}, Cq L CX k Ew N sc X → Fns L CX k X → chkR L.nm N sc "list" it a = true → Snd L Ew X (.listR it) a
  | .r1 x, L, CX, k, Ew, N, sc, X, a, c, F, h => by
    simp only [chkR] at h
    replace h := opt1_of h
    obtain ⟨a', e, h⟩ := h
    unfold shList1 at e
    split at e
    · obtain ⟨q, e⟩ := itesome e
      cases e
      simp only [Bool.and_eq_true, decide_eq_true_eq] at q
      obtain ⟨rfl, rfl, q1, q2, q3⟩ := q
      exact .plain (c_list1 c q1 q2 q3 (snd_E x c F h).pe) rfl
    · cases e
  | .r2 x y, L, CX, k, Ew, N, sc, X, a, c, F, h => by
    simp only [chkR] at h
    replace h := opt1_of h
    obtain ⟨⟨a', b'⟩, e, h⟩ := h
    simp only [Bool.and_eq_true] at h
    unfold shList2 at e
    split at e
    · obtain ⟨q, e⟩ := itesome e
      cases e
      simp only [Bool.and_eq_true, decide_eq_true_eq] at q
      obtain ⟨rfl, rfl, q1, q2, q3, q4⟩ := q
      exact .plain (c_list2 c q1 q2 q3 q4 (snd_E x c F h.1).pe (snd_E y c F h.2).pe) rfl
    · cases e
  | .r3 .., L, CX, k, Ew, N, sc, X, a, c, F, h => by simp [chkR] at h
  | .seq .., L, CX, k, Ew, N, sc, X, a, c, F, h => by simp [chkR] at h
  | .enum .., L, CX, k, Ew, N, sc, X, a, c, F, h => by simp [chkR] at h
  | .zip .., L, CX, k, Ew, N, sc, X, a, c, F, h => by simp [chkR] at h
  | .zip3 .., L, CX, k, Ew, N, sc, X, a, c, F, h => by simp [chkR] at h
theorem snd_RT : ∀ (it : It) {L : Lk} {CX : CXT} {k : Nat} {Ew : XK} {N : List Str} {sc : Scope} {X : Cx} {a : Expr}, Cq L CX k Ew N sc X → Fns L CX k X → chkR L.nm N sc "tuple" it a = true → Snd L Ew X (.tupR it) a
  | .r1 x, L, CX, k, Ew, N, sc, X, a, c, F, h => by
    simp only [chkR] at h
    replace h := opt1_of h
    obtain ⟨a', e, h⟩ := h
    unfold shList1 at e
    split at e
    · obtain ⟨q, e⟩ := itesome e
      cases e
      simp only [Bool.and_eq_true, decide_eq_true_eq] at q
      obtain ⟨rfl, rfl, q1, q2, q3⟩ := q
      exact .plain (c_tup1 c q1 q2 q3 (snd_E x c F h).pe) rfl
    · cases e
  | .r2 x y, L, CX, k, Ew, N, sc, X, a, c, F, h => by
    simp only [chkR] at h
    replace h := opt1_of h
    obtain ⟨⟨a', b'⟩, e, h⟩ := h
    simp only [Bool.and_eq_true] at h
    unfold shList2 at e
    split at e
    · obtain ⟨q, e⟩ := itesome e
      cases e
      simp only [Bool.and_eq_true, decide_eq_true_eq] at q
      obtain ⟨rfl, rfl, q1, q2, q3, q4⟩ := q
      exact .plain (c_tup2 c q1 q2 q3 q4 (snd_E x c F h.1).pe (snd_E y c F h.2).pe) rfl
    · cases e
  | .r3 .., L, CX, k, Ew, N, sc, X, a, c, F, h => by simp [chkR] at h
  | .seq .., L, CX, k, Ew, N, sc, X, a, c, F, h => by simp [chkR] at h
  | .enum .., L, CX, k, Ew, N, sc, X, a, c, F, h => by simp [chkR] at h
  | .zip .., L, CX, k, Ew, N, sc, X, a, c, F, h => by simp [chkR] at h
  | .zip3 .., L, CX, k, Ew, N, sc, X, a, c, F, h => by simp [chkR] at h
theorem snd_It : ∀ (it : It) {L : Lk} {CX : CXT} {k : Nat} {Ew : XK} {N : List Str} {sc : Scope} {X : Cx} {tg a : Expr}, Cq L CX k Ew N sc X → Fns L CX k X → chkIt L.nm N sc it tg a = true → PI X tg a (tI L X.K Ew it)
  | .r1 x, L, CX, k, Ew, N, sc, X, tg, a, c, F, h => by
    simp only [chkIt] at h
    replace h := opt1_of h
    obtain ⟨a', e, h⟩ := h
    unfold shRng1 at e
    split at e
    · obtain ⟨q, e⟩ := itesome e
      cases e
      simp only [Bool.and_eq_true, decide_eq_true_eq] at q
      obtain ⟨rfl, q1, q2⟩ := q
      exact c_r1 c q1 q2 (snd_E x c F h).pe
    · cases e
  | .r2 x y, L, CX, k, Ew, N, sc, X, tg, a, c, F, h => by
    simp only [chkIt] at h
    replace h := opt1_of h
    obtain ⟨⟨a', b'⟩, e, h⟩ := h
    simp only [Bool.and_eq_true] at h
    unfold shRng2 at e
    split at e
    · obtain ⟨q, e⟩ := itesome e
      cases e
      simp only [Bool.and_eq_true, decide_eq_true_eq] at q
      obtain ⟨rfl, q1, q2, q3⟩ := q
      exact c_r2 c q1 q2 q3 (snd_E x c F h.1).pe (snd_E y c F h.2).pe
    · cases e
  | .r3 x y z, L, CX, k, Ew, N, sc, X, tg, a, c, F, h => by
    simp only [chkIt] at h
    replace h := opt1_of h
    obtain ⟨⟨a', b', c'⟩, e, h⟩ := h
    simp only [Bool.and_eq_true] at h
    unfold shRng3 at e
    split at e
    · obtain ⟨q, e⟩ := itesome e
      cases e
      simp only [Bool.and_eq_true, decide_eq_true_eq] at q
      obtain ⟨rfl, q1, q2, q3, q4⟩ := q
      exact c_r3 c q1 q2 q3 q4 (snd_E x c F h.1).pe (snd_E y c F h.2.1).pe (snd_E z c F h.2.2).pe
    · cases e
  | .seq o, L, CX, k, Ew, N, sc, X, tg, a, c, F, h => by
    simp only [chkIt] at h
    exact c_seq (snd_O o c F h)
  | .enum o, L, CX, k, Ew, N, sc, X, tg, a, c, F, h => by
    simp only [chkIt] at h
    replace h := opt1_of h
    obtain ⟨a', e, h⟩ := h
    unfold shEnum at e
    split at e
    · obtain ⟨q, e⟩ := itesome e
      cases e
      simp only [Bool.and_eq_true, decide_eq_true_eq] at q
      obtain ⟨t, rfl, q1, q2⟩ := q
      cases tg with
      | Tuple elts kk tpos => exact c_enum c q1 q2 (snd_O o c F h)
      | _ => cases t
    · cases e
  | .zip x y, L, CX, k, Ew, N, sc, X, tg, a, c, F, h => by
    simp only [chkIt] at h
    replace h := opt1_of h
    obtain ⟨⟨a', b'⟩, e, h⟩ := h
    simp only [Bool.and_eq_true] at h
    unfold shZip2 at e
    split at e
    · obtain ⟨q, e⟩ := itesome e
      cases e
      simp only [Bool.and_eq_true, decide_eq_true_eq] at q
      obtain ⟨t, rfl, q1, q2, q3⟩ := q
      cases tg with
      | Tuple elts kk tpos => exact c_zip2 c q1 q2 q3 (snd_O x c F h.1) (snd_O y c F h.2)
      | _ => cases t
    · cases e
  | .zip3 x y z, L, CX, k, Ew, N, sc, X, tg, a, c, F, h => by
    simp only [chkIt] at h
    replace h := opt1_of h
    obtain ⟨⟨a', b', c'⟩, e, h⟩ := h
    simp only [Bool.and_eq_true] at h
    unfold shZip3 at e
    split at e
    · obtain ⟨q, e⟩ := itesome e
      cases e
      simp only [Bool.and_eq_true, decide_eq_true_eq] at q
      obtain ⟨t, rfl, q1, q2, q3, q4⟩ := q
      cases tg with
      | Tuple elts kk tpos => exact c_zip3 c q1 q2 q3 q4 (snd_O x c F h.1) (snd_O y c F h.2.1) (snd_O z c F h.2.2)
      | _ => cases t
    · cases e
end
end
end PL

/-! part PLMas2 -/
set_option Elab.async false
set_option linter.all false
set_option autoImplicit false
set_option maxRecDepth 100000
set_option maxHeartbeats 4000000
/-! the same for statements -/
namespace PL
open PySem PySem.Spec PyProof.Rows L2
def kindFn (sc : Scope) : Bool := match sc.kind with
  | .function => true
  | _ => false
/-- x = e, the name told -/
structure AsgS where
  x : Str
  py : Pos
  e : Expr
  l : Nat
def isLocal (sc : Scope) (x : Str) : Bool := match sc.names.lookup x with
  | some .local => true
  | _ => false
/-- does [..] on one line go to the name straight? -/
def swC (sc : Scope) (x : Str) (py : Pos) : Expr → Option Bool
  | .ListComp _ _ s p => some (isLocal sc x && ((py.line == p.line) && !(s.names.any fun (n, k) => n == x && (k == .local || k == .cell))))
  | .SetComp _ _ _ _ => none
  | .DictComp _ _ _ _ _ => none
  | _ => some false
def shSet (N : List Str) (sc : Scope) (i : Nat) : Stmt → Option (Str × Pos × Expr)
  | .Assign [.Name x np] e' _ => if decide (N[i]? = some x) && isLoc sc x then some (x, np, e') else none
  | _ => none
def distinct : List Nat → Bool
  | [] => true
  | i :: is => !is.contains i && distinct is
def swKind (sc : Scope) (ts vs : List Expr) (xs : List Str) : Bool := match swN sc ts vs with
  | some (some ys) => decide (xs = ys) && (xs.all (isLocal sc) && (decide (ts.length = 2) || decide (ts.length = 3)))
  | some none => true
  | none => false
def tgNames : List Expr → Option (List Str)
  | [] => some []
  | .Name x _ :: r => (tgNames r).map (x :: ·)
  | _ => none
def shSetT (N : List Str) (sc : Scope) (ms : List (Bool × Nat)) : Stmt → Option (List Expr)
  | .Assign [.Tuple ts _ _] (.Tuple vs _ _) _ => if kindFn sc && (chkNames N sc (ms.map (·.2)) ts && (decide (ms.length ≤ 1000) && (decide (vs.length = ms.length) && (distinct (ms.map (·.2)) && opt1 (tgNames ts) (swKind sc ts vs))))) then some vs else none
  | _ => none
def shSetP (N : List Str) (sc : Scope) (p : Pat) : Stmt → Option Expr
  | .Assign [tg] e' _ => if chkP N sc p tg && (!isComp e' && notTup e') then some e' else none
  | _ => none
def shSetI (N : List Str) (sc : Scope) (i : Nat) : Stmt → Option (Expr × Expr)
  | .Assign [.Subscript (.Name x _) ix' _] e' _ => if nmOk N sc i x && (!isComp e' && (notTup e' && notSlice ix')) then some (ix', e') else none
  | _ => none
def shAug (N : List Str) (sc : Scope) (i : Nat) : Stmt → Option Expr
  | .AugAssign (.Name x _) .Add e' _ => if decide (N[i]? = some x) && isLoc sc x then some e' else none
  | _ => none
def shAugI (N : List Str) (sc : Scope) (i : Nat) : Stmt → Option (Expr × Expr)
  | .AugAssign (.Subscript (.Name x _) ix' _) .Add e' _ => if nmOk N sc i x && notSlice ix' then some (ix', e') else none
  | _ => none
def shApp (N : List Str) (sc : Scope) (i : Nat) : Stmt → Option Expr
  | .Expr (.Call (.Attribute (.Name x _) nm ap) [e'] [] cp) _ => if decide (nm = "append") && (nmOk N sc i x && ((ap.endLine == cp.line) && notStar e')) then some e' else none
  | _ => none
def shRem (N : List Str) (sc : Scope) (i : Nat) : Stmt → Option Expr
  | .Expr (.Call (.Attribute (.Name x _) nm ap) [e'] [] cp) _ => if decide (nm = "remove") && (nmOk N sc i x && ((ap.endLine == cp.line) && notStar e')) then some e' else none
  | _ => none
def shIns (N : List Str) (sc : Scope) (i : Nat) : Stmt → Option (Expr × Expr)
  | .Expr (.Call (.Attribute (.Name x _) nm ap) [d', e'] [] cp) _ => if decide (nm = "insert") && (nmOk N sc i x && ((ap.endLine == cp.line) && (notStar d' && notStar e'))) then some (d', e') else none
  | _ => none
def shIfS : Stmt → Option (Expr × List Stmt × List Stmt)
  | .If c a b _ => some (c, a, b)
  | _ => none
def shFor (N : List Str) (sc : Scope) (p : Pat) (it : It) : Stmt → Option (Expr × Expr × List Stmt)
  | .For tg iter body [] _ => if it.lk.isEmpty && (chkP N sc p tg && notSet iter) then some (tg, iter, body) else none
  | _ => none
def shWhile : Stmt → Option (Expr × List Stmt)
  | .While c body [] _ => some (c, body)
  | _ => none
def shRet : Stmt → Option Expr
  | .Return (some e') _ => some e'
  | _ => none
def shRetN : Stmt → Bool
  | .Return none _ => true
  | _ => false
def shBrk : Stmt → Bool
  | .Break _ => true
  | _ => false
def shExprS : Stmt → Option Expr
  | .Expr (.Call f as ks cp) _ => some (.Call f as ks cp)
  | _ => none
/-- raise C(e) -/
def shRaise (xnm : List Str) (sc : Scope) (c : Nat) : Stmt → Option Expr
  | .Raise (some (.Call (.Name x _) [e'] [] _)) none _ => if decide (xnm[c]? = some x) && (isGl sc x && notStar e') then some e' else none
  | _ => none
def isCompE : E → Bool
  | .comp _ _ _ _ _ _ => true
  | .comp2 _ _ _ _ _ _ _ _ _ => true
  | _ => false
mutual
def chkSt (M : Nm) (xnm : List Str) (N : List Str) (sc : Scope) : S → Stmt → Bool
  | .expr e, a => opt1 (shExprS a) fun q => chkE M N sc e q
  | .ret e, a => opt1 (shRet a) fun q => chkE M N sc e q
  | .retV i, a => opt1 (shRet a) fun q => shVar N sc i q
  | .retN, a => shRetN a
  | .set m i e, a => opt1 (shSet N sc i a) fun q => opt1 (swC sc q.1 q.2.1 q.2.2) fun b => ((b && isCompE e) || !b) && (kindFn sc && chkE M N sc e q.2.2)
  | .setT ms es, a => opt1 (shSetT N sc ms a) fun vs => chkEs M N sc es vs
  | .setP p e, a => opt1 (shSetP N sc p a) fun q => chkE M N sc e q
  | .setI i ix e, a => opt1 (shSetI N sc i a) fun q => chkE M N sc ix q.1 && chkE M N sc e q.2
  | .aug i e, a => opt1 (shAug N sc i a) fun q => chkE M N sc e q
  | .augI i ix e, a => opt1 (shAugI N sc i a) fun q => chkE M N sc ix q.1 && chkE M N sc e q.2
  | .app i e, a => opt1 (shApp N sc i a) fun q => chkE M N sc e q
  | .rem i e, a => opt1 (shRem N sc i a) fun q => chkE M N sc e q
  | .ins i x e, a => opt1 (shIns N sc i a) fun q => chkE M N sc x q.1 && chkE M N sc e q.2
  | .ifS c x y, a => opt1 (shIfS a) fun q => chkE M N sc c q.1 && (chkSs M xnm N sc x q.2.1 && chkSs M xnm N sc y q.2.2)
  | .forS p it body w, a => opt1 (shFor N sc p it a) fun q => chkIt M N sc it q.1 q.2.1 && chkSs M xnm N sc body q.2.2
  | .whileS c body w, a => opt1 (shWhile a) fun q => chkE M N sc c q.1 && chkSs M xnm N sc body q.2
  | .brk, a => shBrk a
  | .raiseS c e, a => opt1 (shRaise xnm sc c a) fun q => chkE M N sc e q
  | _, _ => false
def chkSs (M : Nm) (xnm : List Str) (N : List Str) (sc : Scope) : Ss → List Stmt → Bool
  | .nil, [] => true
  | .cons s ss, a :: as => chkSt M xnm N sc s a && chkSs M xnm N sc ss as
  | _, _ => false
end
/-- raise C(e): what is let out -/
structure Rsr (L : Lk) (Ew : XK) (xnm : List Str) (N : List Str) (sc : Scope) (X : Cx) : Prop where
  run : ∀ (c : Nat) (x : Str) (e : E) (e' : Expr) (np cp pos : Pos), xnm[c]? = some x → isGl sc x = true → notStar e' = true → PE X e' (tE L X.K Ew e) → PS X (.Raise (some (.Call (.Name x np) [e'] [] cp)) none pos) (tX L X.K Ew (exS L.ft L.gl L.fuel (.raiseS c e)))
/-- a def's body -/
structure Bd (L : Lk) (CX : CXT) (k : Nat) (Ew : XK) (xnm : List Str) (N : List Str) (sc : Scope) (X : Cx) : Prop where
  c : Cq L CX k Ew N sc X
  f : Fns L CX k X
  st : Sto N sc X
  own : PassesOwn (model X.prog X.w) X.A X.env X.xe
  rs : Rsr L Ew xnm N sc X
section
variable {L : Lk} {CX : CXT} {k : Nat} {Ew : XK} {N : List Str} {sc : Scope} {X : Cx} {xnm : List Str}
theorem kind_of (c : Cq L CX k Ew N sc X) (h : kindFn sc = true) : X.env.scope.kind = .function := by
  rw [c.sc]
  unfold kindFn at h
  split at h
  · assumption
  · cases h
theorem local_of (c : Cq L CX k Ew N sc X) {x : Str} (h : isLocal sc x = true) : X.env.scope.names.lookup x = some .local := by
  rw [c.sc]
  unfold isLocal at h
  split at h
  · assumption
  · cases h
theorem snd_Rs (c : Cq L CX k Ew N sc X) (F : Fns L CX k X) : ∀ (es : Es) {as : List Expr} {ms : List Bool}, chkEs L.nm N sc es as = true → ms.length = as.length → PA X as (tRs L X.K Ew ms es)
  | .nil, as, ms, h, hl => by
    cases as with
    | nil => exact r_nil
    | cons a as => simp only [chkEs] at h; cases h
  | .cons e es, as, ms, h, hl => by
    cases as with
    | nil => simp only [chkEs] at h; cases h
    | cons a as =>
      simp only [chkEs, Bool.and_eq_true] at h
      cases ms with
      | nil => cases hl
      | cons m ms => exact r_cons h.1 (snd_E e c F h.2.1).pe (snd_Rs c F es h.2.2 (by simpa using hl))
theorem distinct_nodup : ∀ {is : List Nat}, distinct is = true → is.Nodup
  | [], _ => by simp
  | i :: is, h => by
    simp only [distinct, Bool.and_eq_true, Bool.not_eq_true'] at h
    refine List.nodup_cons.mpr ⟨fun z => ?_, distinct_nodup h.2⟩
    rw [List.contains_iff_mem.mpr z] at h
    cases h.1
theorem chkNames_len : ∀ {is : List Nat} {es : List Expr} {st : Scope}, chkNames N st is es = true → is.length = es.length
  | [], [], _, _ => rfl
  | i :: is, e :: es, st, h => by
    cases e with
    | Name x p =>
      simp only [chkNames, Bool.and_eq_true] at h
      rw [List.length_cons, List.length_cons, chkNames_len h.2]
    | _ => cases h
  | [], _ :: _, _, h => by cases h
  | _ :: _, [], _, h => by cases h
theorem len2 {α : Type} : ∀ {l : List α}, l.length = 2 → ∃ a b, l = [a, b]
  | [a, b], _ => ⟨a, b, rfl⟩
  | [], h => by cases h
  | [_], h => by cases h
  | _ :: _ :: _ :: _, h => by simp at h
theorem len3 {α : Type} : ∀ {l : List α}, l.length = 3 → ∃ a b c, l = [a, b, c]
  | [a, b, c], _ => ⟨a, b, c, rfl⟩
  | [], h => by cases h
  | [_], h => by cases h
  | [_, _], h => by cases h
  | _ :: _ :: _ :: _ :: _, h => by simp at h
theorem s_setT' (b : Bd L CX k Ew xnm N sc X) {ms : List (Bool × Nat)} {es : Es} {a : Stmt} (h : chkSt L.nm xnm N sc (.setT ms es) a = true) : PS X a (tX L X.K Ew (exS L.ft L.gl L.fuel (.setT ms es))) := by
  simp only [chkSt] at h
  replace h := opt1_of h
  obtain ⟨vs, e, h⟩ := h
  unfold shSetT at e
  split at e
  · rename_i ts kt pt vs' k2 pt2 pos
    obtain ⟨q, e⟩ := itesome e
    cases e
    simp only [Bool.and_eq_true, decide_eq_true_eq] at q
    obtain ⟨q1, q2, q3, q0, q4, q5⟩ := q
    replace q5 := opt1_of q5
    obtain ⟨xs, q5, q6⟩ := q5
    have hk := kind_of b.c q1
    have ha := snd_Rs b.c b.f es (ms := ms.map (·.1)) h (by rw [List.length_map, q0])
    have ln := chkNames_len q2
    rw [List.length_map] at ln
    have scx := b.c.sc
    unfold swKind at q6
    split at q6
    · rename_i ys hy
      simp only [Bool.and_eq_true, Bool.or_eq_true, decide_eq_true_eq] at q6
      obtain ⟨rfl, q7, l1⟩ := q6
      have l2 : vs.length = ts.length := by omega
      have nd := distinct_nodup q4
      rcases l1 with l1 | l1
      · obtain ⟨t1, t2, rfl⟩ := len2 l1
        obtain ⟨⟨m1, i⟩, ⟨m2, j⟩, rfl⟩ := len2 (show ms.length = 2 by omega)
        obtain ⟨v1, v2, rfl⟩ := len2 (show vs.length = 2 by omega)
        · cases t1 with
          | Name x px =>
            cases t2 with
            | Name y py =>
              cases q5
              simp only [List.map_cons, List.map_nil, chkNames, Bool.and_eq_true, decide_eq_true_eq] at q2
              simp only [List.all_cons, List.all_nil, Bool.and_eq_true] at q7
              have nij : i ≠ j := by
                simp only [List.map_cons, List.map_nil, List.nodup_cons, List.mem_cons, List.not_mem_nil, or_false] at nd
                exact nd.1
              exact s_par2 b.st hk (by rw [b.c.N]; exact q2.1.1) (by rw [b.c.N]; exact q2.2.1.1) nij (local_of b.c q7.1) (local_of b.c q7.2.1) (by rw [scx]; exact hy) ha
            | _ => simp [chkNames] at q2
          | _ => simp [chkNames] at q2
      · obtain ⟨t1, t2, t3, rfl⟩ := len3 l1
        obtain ⟨⟨m1, i⟩, ⟨m2, j⟩, ⟨m3, l⟩, rfl⟩ := len3 (show ms.length = 3 by omega)
        obtain ⟨v1, v2, v3, rfl⟩ := len3 (show vs.length = 3 by omega)
        · cases t1 with
          | Name x px =>
            cases t2 with
            | Name y py =>
              cases t3 with
              | Name z pz =>
                cases q5
                simp only [List.map_cons, List.map_nil, chkNames, Bool.and_eq_true, decide_eq_true_eq] at q2
                simp only [List.all_cons, List.all_nil, Bool.and_eq_true] at q7
                simp only [List.map_cons, List.map_nil, List.nodup_cons, List.mem_cons, List.not_mem_nil, or_false, not_or] at nd
                exact s_par3 b.st hk (by rw [b.c.N]; exact q2.1.1) (by rw [b.c.N]; exact q2.2.1.1) (by rw [b.c.N]; exact q2.2.2.1.1) nd.1.1 nd.1.2 nd.2.1 (local_of b.c q7.1) (local_of b.c q7.2.1) (local_of b.c q7.2.2.1) (by rw [scx]; exact hy) ha
              | _ => simp [chkNames] at q2
            | _ => simp [chkNames] at q2
          | _ => simp [chkNames] at q2
    · rename_i hy
      exact s_setT b.st hk q2 q3 (by rw [scx]; exact hy) ha
    · cases q6
  · cases e
theorem swC_of (c : Cq L CX k Ew N sc X) {x : Str} {py : Pos} {e : Expr} {l : Nat} (hk : X.env.scope.kind = .function) (hc : isComp e = true) (h : swC sc x py e = some true) : swapsWith e (some (.Name x py)) l X.env = pure true ∧ X.env.scope.names.lookup x = some .local := by
  cases e with
  | ListComp elt gs s p =>
    have h' : (isLocal sc x && ((py.line == p.line) && !(s.names.any fun (n, k) => n == x && (k == .local || k == .cell)))) = true := by
      simpa [swC] using h
    simp only [Bool.and_eq_true, Bool.not_eq_true'] at h'
    exact ⟨sw_true hk (local_of c h'.1) h'.2.1 h'.2.2, local_of c h'.1⟩
  | SetComp => cases h
  | DictComp => cases h
  | _ => cases hc
theorem swC_no (c : Cq L CX k Ew N sc X) {x : Str} {py : Pos} {e : Expr} {l : Nat} (h : swC sc x py e = some false) : swapsWith e (some (.Name x py)) l X.env = pure false := by
  cases e with
  | ListComp elt gs s p =>
    have h' : (isLocal sc x && ((py.line == p.line) && !(s.names.any fun (n, k) => n == x && (k == .local || k == .cell)))) = false := by
      simpa [swC] using h
    have e1 : (X.env.kindOf x == some .local) = isLocal sc x := by
      unfold Env.kindOf isLocal
      rw [c.sc]
      cases hl : sc.names.lookup x with
      | none => rfl
      | some q => cases q <;> rfl
    show (pure (X.env.blockKind == .function && X.env.kindOf x == some .local && py.line == p.line && !(s.names.any fun (n, k) => n == x && (k == .local || k == .cell))) : Sem Bool) = pure false
    rw [e1, Bool.and_assoc, Bool.and_assoc]
    rw [show (isLocal sc x && ((py.line == p.line) && !(s.names.any fun (n, k) => n == x && (k == .local || k == .cell)))) = false from h']
    simp
  | SetComp => cases h
  | DictComp => cases h
  | _ => exact swaps_no rfl
mutual
theorem snd_S1 (b : Bd L CX k Ew xnm N sc X) : ∀ (st : S) {a : Stmt}, chkSt L.nm xnm N sc st a = true → PS X a (tX L X.K Ew (exS L.ft L.gl L.fuel st))
  | .expr e, a, h => by
    simp only [chkSt] at h
    replace h := opt1_of h
    obtain ⟨q, e1, h⟩ := h
    unfold shExprS at e1
    split at e1
    · cases e1
      exact s_expr (snd_E e b.c b.f h).pe
    · cases e1
  | .ret e, a, h => by
    simp only [chkSt] at h
    replace h := opt1_of h
    obtain ⟨q, e1, h⟩ := h
    unfold shRet at e1
    split at e1
    · cases e1
      exact s_ret (snd_E e b.c b.f h).pe
    · cases e1
  | .retV i, a, h => by
    simp only [chkSt] at h
    replace h := opt1_of h
    obtain ⟨q, e1, h⟩ := h
    unfold shRet at e1
    split at e1
    · cases e1
      cases q with
      | Name x pos =>
        obtain ⟨h1, h2, h3, h4, _⟩ := nmOk_of b.c (show nmOk N sc i x = true from h)
        exact s_retV h1 h2 h3 h4
      | _ => cases h
    · cases e1
  | .retN, a, h => by
    simp only [chkSt] at h
    unfold shRetN at h
    split at h
    · exact s_retN
    · cases h
  | .set m i e, a, h => by
    simp only [chkSt] at h
    replace h := opt1_of h
    obtain ⟨⟨x, py, e'⟩, e1, h⟩ := h
    replace h := opt1_of h
    obtain ⟨sw, e2, h⟩ := h
    simp only [Bool.and_eq_true, Bool.or_eq_true, Bool.not_eq_true'] at h
    obtain ⟨h1, h2, h3⟩ := h
    unfold shSet at e1
    split at e1
    · obtain ⟨q, e1⟩ := itesome e1
      cases e1
      simp only [Bool.and_eq_true, decide_eq_true_eq] at q
      have hN : X.N[i]? = some x := by rw [b.c.N]; exact q.1
      cases hsw : sw with
      | false => exact s_set b.st hN q.2 (swC_no b.c (by rw [← hsw]; exact e2)) (snd_E e b.c b.f h3).pe
      | true =>
        have hc : isComp e' = true := by
          rw [hsw] at e2
          cases e' <;> first | rfl | (simp [swC] at e2; done)
        have hs : sw = true ∧ isCompE e = true := by
          rcases h1 with h1 | h1
          · exact h1
          · rw [hsw] at h1; cases h1
        obtain ⟨hs, he⟩ := hs
        subst hs
        obtain ⟨w1, w2⟩ := swC_of (l := _) b.c (kind_of b.c h2) hc e2
        cases e with
        | comp own p it hcc cc ee =>
          exact s_setC ((comp_snd b.c b.f h3 (fun h => snd_It it b.c b.f h) (fun c F h => snd_E ee c F h) (fun c F h => snd_E cc c F h)).2 hN w2 w1)
        | comp2 own own2 p it p2 it2 hcc cc ee =>
          exact s_setC ((comp2_snd b.c b.f h3 (fun h => snd_It it b.c b.f h) (fun c F h => snd_It it2 c F h) (fun c F h => snd_E ee c F h) (fun c F h => snd_E cc c F h)).2 hN w2 w1)
        | _ => cases he
    · cases e1
  | .setT ms es, a, h => s_setT' b h
  | .setP p e, a, h => by
    simp only [chkSt] at h
    replace h := opt1_of h
    obtain ⟨q, e1, h⟩ := h
    unfold shSetP at e1
    split at e1
    · obtain ⟨z, e1⟩ := itesome e1
      cases e1
      simp only [Bool.and_eq_true, Bool.not_eq_true'] at z
      exact s_setP b.st z.1 z.2.1 z.2.2 (snd_E e b.c b.f h).pe
    · cases e1
  | .setI i ix e, a, h => by
    simp only [chkSt] at h
    replace h := opt1_of h
    obtain ⟨⟨q1, q2⟩, e1, h⟩ := h
    simp only [Bool.and_eq_true] at h
    unfold shSetI at e1
    split at e1
    · obtain ⟨z, e1⟩ := itesome e1
      cases e1
      simp only [Bool.and_eq_true, Bool.not_eq_true'] at z
      obtain ⟨h1, h2, h3, h4, h5⟩ := nmOk_of b.c z.1
      exact s_setI h1 h2 h5 z.2.1 z.2.2.1 z.2.2.2 (snd_E ix b.c b.f h.1).pe (snd_E e b.c b.f h.2).pe
    · cases e1
  | .aug i e, a, h => by
    simp only [chkSt] at h
    replace h := opt1_of h
    obtain ⟨q, e1, h⟩ := h
    unfold shAug at e1
    split at e1
    · obtain ⟨z, e1⟩ := itesome e1
      cases e1
      simp only [Bool.and_eq_true, decide_eq_true_eq] at z
      exact s_aug b.st (by rw [b.c.N]; exact z.1) z.2 (snd_E e b.c b.f h).pe
    · cases e1
  | .augI i ix e, a, h => by
    simp only [chkSt] at h
    replace h := opt1_of h
    obtain ⟨⟨q1, q2⟩, e1, h⟩ := h
    simp only [Bool.and_eq_true] at h
    unfold shAugI at e1
    split at e1
    · obtain ⟨z, e1⟩ := itesome e1
      cases e1
      simp only [Bool.and_eq_true] at z
      obtain ⟨h1, h2, h3, h4, h5⟩ := nmOk_of b.c z.1
      exact s_augI h1 h2 h5 z.2 (snd_E ix b.c b.f h.1).pe (snd_E e b.c b.f h.2).pe
    · cases e1
  | .app i e, a, h => by
    simp only [chkSt] at h
    replace h := opt1_of h
    obtain ⟨q, e1, h⟩ := h
    unfold shApp at e1
    split at e1
    · obtain ⟨z, e1⟩ := itesome e1
      cases e1
      simp only [Bool.and_eq_true, decide_eq_true_eq] at z
      obtain ⟨rfl, z1, z2, z3⟩ := z
      obtain ⟨h1, h2, h3, h4, h5⟩ := nmOk_of b.c z1
      exact s_app h1 h2 h5 z2 z3 (snd_E e b.c b.f h).pe
    · cases e1
  | .ins i x e, a, h => by
    simp only [chkSt] at h
    replace h := opt1_of h
    obtain ⟨q, e1, h⟩ := h
    rw [Bool.and_eq_true] at h
    unfold shIns at e1
    split at e1
    · obtain ⟨z, e1⟩ := itesome e1
      cases e1
      simp only [Bool.and_eq_true, decide_eq_true_eq] at z
      obtain ⟨rfl, z1, z2, z3, z4⟩ := z
      obtain ⟨h1, h2, h3, h4, h5⟩ := nmOk_of b.c z1
      exact s_ins h1 h2 h5 z2 z3 z4 (snd_E x b.c b.f h.1).pe (snd_E e b.c b.f h.2).pe
    · cases e1
  | .rem i e, a, h => by
    simp only [chkSt] at h
    replace h := opt1_of h
    obtain ⟨q, e1, h⟩ := h
    unfold shRem at e1
    split at e1
    · obtain ⟨z, e1⟩ := itesome e1
      cases e1
      simp only [Bool.and_eq_true, decide_eq_true_eq] at z
      obtain ⟨rfl, z1, z2, z3⟩ := z
      obtain ⟨h1, h2, h3, h4, h5⟩ := nmOk_of b.c z1
      exact s_rem b.c h1 h2 h5 z2 z3 (snd_E e b.c b.f h).pe
    · cases e1
  | .setII .., a, h => by simp [chkSt] at h
  | .ifS c x y, a, h => by
    simp only [chkSt] at h
    replace h := opt1_of h
    obtain ⟨⟨q1, q2, q3⟩, e1, h⟩ := h
    simp only [Bool.and_eq_true] at h
    unfold shIfS at e1
    split at e1
    · cases e1
      exact s_if (snd_E c b.c b.f h.1).pt (snd_SS b x h.2.1) (snd_SS b y h.2.2)
    · cases e1
  | .forS p it body w, a, h => by
    simp only [chkSt] at h
    replace h := opt1_of h
    obtain ⟨⟨q1, q2, q3⟩, e1, h⟩ := h
    simp only [Bool.and_eq_true] at h
    unfold shFor at e1
    split at e1
    · obtain ⟨z, e1⟩ := itesome e1
      cases e1
      simp only [Bool.and_eq_true] at z
      exact s_for b.own b.st (by simpa using z.1) (snd_It it b.c b.f h.1) z.2.1 (fun pr => chkP_t z.2.1 (chkIt_pr h.1 pr)) (snd_SS b body h.2) z.2.2
    · cases e1
  | .whileS c body w, a, h => by
    simp only [chkSt] at h
    replace h := opt1_of h
    obtain ⟨⟨q1, q2⟩, e1, h⟩ := h
    simp only [Bool.and_eq_true] at h
    unfold shWhile at e1
    split at e1
    · cases e1
      exact s_while b.own (snd_E c b.c b.f h.1).pt (snd_SS b body h.2)
    · cases e1
  | .brk, a, h => by
    simp only [chkSt] at h
    unfold shBrk at h
    split at h
    · exact s_brk
    · cases h
  | .raiseS c e, a, h => by
    simp only [chkSt] at h
    replace h := opt1_of h
    obtain ⟨q, e1, h⟩ := h
    unfold shRaise at e1
    split at e1
    · obtain ⟨z, e1⟩ := itesome e1
      cases e1
      simp only [Bool.and_eq_true, decide_eq_true_eq] at z
      exact b.rs.run c _ e _ _ _ _ z.1 z.2.1 z.2.2 (snd_E e b.c b.f h).pe
    · cases e1
theorem snd_SS (b : Bd L CX k Ew xnm N sc X) : ∀ (ss : Ss) {as : List Stmt}, chkSs L.nm xnm N sc ss as = true → PSs X as (tX L X.K Ew (exSs L.ft L.gl L.fuel ss))
  | .nil, as, h => by
    cases as with
    | nil => exact s_nil
    | cons a as => simp only [chkSs] at h; cases h
  | .cons s ss, as, h => by
    cases as with
    | nil => simp only [chkSs] at h; cases h
    | cons a as =>
      simp only [chkSs, Bool.and_eq_true] at h
      exact s_cons (snd_S1 b s h.1) (snd_SS b ss h.2)
end
end
end PL

/-! part PLProg -/
set_option Elab.async false
set_option linter.all false
set_option autoImplicit false
set_option maxRecDepth 100000
set_option maxHeartbeats 4000000
/-! defs keep their promises -/
namespace PL
open PySem PySem.Spec PyProof.Rows L2
section
variable {K : PySem.W.Frag} {T : Tb} {σ σ1 σ2 : St} {Z H Z1 H1 : Hp} {env env1 e1 args : En}
theorem retA_len : ∀ {args : List Slot} {e : En}, (retA args e).length = args.length
  | .io _ :: r, s :: e => by simp [retA, retA_len (args := r) (e := e)]
  | .val _ :: r, s :: e => by simp [retA, retA_len (args := r) (e := e)]
  | .non :: r, s :: e => by simp [retA, retA_len (args := r) (e := e)]
  | .own _ :: r, s :: e => by simp [retA, retA_len (args := r) (e := e)]
  | .lk _ :: r, s :: e => by simp [retA, retA_len (args := r) (e := e)]
  | [], e => by cases e <;> simp [retA]
  | _ :: _, [] => by simp [retA]
theorem retA_gt : ∀ {args : List Slot} {e : En} (i : Nat), args.length ≤ e.length → i < args.length → En.gt (retA args e) i = if isIo (En.gt args i) = true then e.gt i else En.gt args i
  | a :: r, s :: e, 0, _, _ => by cases a <;> rfl
  | a :: r, s :: e, i + 1, hl, hi => by
    have ih := retA_gt (args := r) (e := e) i (by simpa using hl) (by simpa using hi)
    cases a <;> (rw [show (retA (_ :: r) (s :: e)) = _ :: retA r e from rfl]; rw [gt_consS, gt_consS, gt_consS]; exact ih)
  | [], _, _, _, hi => by simp at hi
  | _ :: _, [], _, hl, _ => by simp at hl
theorem gt_app {a b : En} (i : Nat) : En.gt (a ++ b) i = if i < a.length then En.gt a i else En.gt b (i - a.length) := by
  unfold En.gt
  rw [List.getD_eq_getElem?_getD, List.getElem?_append]
  by_cases h : i < a.length
  · rw [if_pos h, if_pos h, List.getD_eq_getElem?_getD]
  · rw [if_neg h, if_neg h, List.getD_eq_getElem?_getD]
theorem gt_rep (n i : Nat) : En.gt (List.replicate n .non) i = .non := by
  unfold En.gt
  rw [List.getD_eq_getElem?_getD, List.getElem?_replicate]
  split <;> rfl
theorem sg_start {N : List Str} {vs : List V} (i : Nat) (h : i < vs.length) : sg (start N vs) i = sg (vs.map some) i := by
  unfold sg L2.start
  rw [List.getD_eq_getElem?_getD, List.getD_eq_getElem?_getD, List.getElem?_append_left (by rw [List.length_map]; exact h)]
theorem okArgs_of : ∀ {args : List Slot}, okArgs args = true → ∀ i, isOwn (En.gt args i) = false ∧ isLk (En.gt args i) = false
  | [], _, i => ⟨rfl, rfl⟩
  | .val _ :: r, h, 0 => ⟨rfl, rfl⟩
  | .io _ :: r, h, 0 => ⟨rfl, rfl⟩
  | .val _ :: r, h, i + 1 => okArgs_of (args := r) h i
  | .io _ :: r, h, i + 1 => okArgs_of (args := r) h i
  | .non :: _, h, _ => by cases h
  | .own _ :: _, h, _ => by cases h
  | .lk _ :: _, h, _ => by cases h
/-- the start of a body -/
theorem re_start {N : List Str} {vs : List V} (r : RE K T Z H args (vs.map some)) (hn : vs.length ≤ N.length) : RE K T Z H (args ++ List.replicate (N.length - vs.length) .non) (start N vs) := by
  have hl : args.length = vs.length := by rw [r.len, List.length_map]
  have f : ∀ i, isL (En.gt (args ++ List.replicate (N.length - vs.length) Slot.non) i) = true → i < args.length := fun i h => by
    rw [gt_app] at h
    by_cases c : i < args.length
    · exact c
    · rw [if_neg c, gt_rep] at h
      cases h
  refine ⟨by simp [L2.start, hl], fun i => ?_, fun i j a hi hj ei ej => ?_, r.ex, r.tb, r.pt⟩
  · rw [gt_app]
    by_cases c : i < args.length
    · rw [if_pos c, sg_start i (by omega)]
      exact r.sl i
    · rw [if_neg c, gt_rep]
      trivial
  · have ci := f i hi
    have cj := f j hj
    rw [gt_app, if_pos ci] at hi
    rw [gt_app, if_pos cj] at hj
    rw [sg_start i (by omega)] at ei
    rw [sg_start j (by omega)] at ej
    exact r.ap i j a hi hj ei ej
/-- the end of a body, as the caller sees it -/
theorem stp_end {N : List Str} {vs : List V} (r : RE K T Z H args (vs.map some)) (h0 : ∀ i, isL (En.gt args i) = true → i = 0) (ok : okArgs args = true) (hn : vs.length ≤ N.length)
    (s : StpS K T Z H (args ++ List.replicate (N.length - vs.length) .non) (start N vs) Z1 H1 e1 σ1) : Stp K T (vs.map some) Z H args Z1 H1 (retA args e1) := by
  have hl : args.length = vs.length := by rw [r.len, List.length_map]
  have le : args.length ≤ e1.length := by rw [s.ln]; simp
  have ga : ∀ i, i < args.length → En.gt (args ++ List.replicate (N.length - vs.length) Slot.non) i = En.gt args i := fun i h => by rw [gt_app, if_pos h]
  have gn : ∀ i, ¬ i < args.length → En.gt (args ++ List.replicate (N.length - vs.length) Slot.non) i = .non := fun i h => by rw [gt_app, if_neg h, gt_rep]
  have no : ∀ b, ¬ OwnAt (args ++ List.replicate (N.length - vs.length) .non) (start N vs) b := fun b ⟨i, hi, _⟩ => by
    by_cases c : i < args.length
    · rw [ga i c, (okArgs_of ok i).1] at hi; cases hi
    · rw [gn i c] at hi; cases hi
  have mv : Mv (OwnAt args (vs.map some)) (IoAt args (vs.map some)) Z H Z1 H1 := s.mv.mono (fun b z => absurd z (no b)) (fun b ⟨i, hi, e⟩ => by
    by_cases c : i < args.length
    · rw [ga i c] at hi
      rw [sg_start i (by omega)] at e
      exact ⟨i, hi, e⟩
    · rw [gn i c] at hi; cases hi)
  have rg : ∀ i, i < args.length → En.gt (retA args e1) i = if isIo (En.gt args i) = true then e1.gt i else En.gt args i := fun i h => retA_gt i le h
  have rn : ∀ i, ¬ i < args.length → En.gt (retA args e1) i = .non ∧ En.gt args i = .non := fun i h => ⟨gt_ge (by rw [retA_len]; omega), gt_ge (by omega)⟩
  have isio : ∀ i, i < args.length → isIo (e1.gt i) = isIo (En.gt args i) := fun i h => by rw [(s.io i).1, ga i h]
  have lst : ∀ i, isL (En.gt (retA args e1) i) = true → isL (En.gt args i) = true := fun i h => by
    by_cases c : i < args.length
    · rw [rg i c] at h
      by_cases c2 : isIo (En.gt args i) = true
      · unfold isL; rw [c2]; simp
      · rw [if_neg c2] at h; exact h
    · rw [(rn i c).1] at h; cases h
  refine ⟨⟨by rw [retA_len]; exact r.len, fun i => ?_, fun i j a hi hj _ _ => by rw [h0 i (lst i hi), h0 j (lst j hj)], s.re.ex, s.re.tb, s.re.pt⟩, mv, fun i h => ?_, fun i => ?_, fun i => ?_⟩
  · by_cases c : i < args.length
    · rw [rg i c]
      by_cases c2 : isIo (En.gt args i) = true
      · rw [if_pos c2]
        have q := s.re.sl i
        have e := (s.io i).2 (by rw [ga i c]; exact c2)
        rw [e, sg_start i (by omega)] at q
        exact q
      · rw [if_neg c2]
        have q := r.sl i
        have k1 := okArgs_of ok i
        cases eq : En.gt args i with
        | non => trivial
        | val d =>
          rw [eq] at q
          obtain ⟨u, e1, e2⟩ := q
          exact ⟨u, e1, dp_mono mv.ez _ e2⟩
        | own xs => rw [eq] at k1; cases k1.1
        | io xs => rw [eq] at c2; exact absurd rfl c2
        | lk xs => rw [eq] at k1; cases k1.2
    · rw [(rn i c).1]; trivial
  · by_cases c : i < args.length
    · rw [rg i c] at h
      by_cases c2 : isIo (En.gt args i) = true
      · rw [if_pos c2] at h
        have := isio i c
        rw [c2] at this
        cases eq : e1.gt i <;> rw [eq] at h this <;> first | (cases h; done) | (cases this; done)
      · rw [if_neg c2] at h; exact h
    · rw [(rn i c).1] at h; cases h
  · by_cases c : i < args.length
    · rw [rg i c]
      by_cases c2 : isIo (En.gt args i) = true
      · rw [if_pos c2]; exact isio i c
      · rw [if_neg c2]
    · rw [(rn i c).1, (rn i c).2]
  · by_cases c : i < args.length
    · rw [rg i c]
      by_cases c2 : isIo (En.gt args i) = true
      · rw [if_pos c2]
        have := isio i c
        rw [c2] at this
        rw [(okArgs_of ok i).2]
        cases eq : e1.gt i <;> rw [eq] at this <;> first | rfl | (cases this; done)
      · rw [if_neg c2]
    · rw [(rn i c).1, (rn i c).2]
/-- the same where no list was lent -/
theorem stp_endV {N : List Str} {vs : List V} (r : RE K T Z H args (vs.map some)) (h0 : ∀ i, isL (En.gt args i) = false) (hn : vs.length ≤ N.length)
    (s : StpS K T Z H (args ++ List.replicate (N.length - vs.length) .non) (start N vs) Z1 H1 e1 σ1) : Stp K T (vs.map some) Z H args Z1 H1 args := by
  have nl : ∀ i, isL (En.gt (args ++ List.replicate (N.length - vs.length) Slot.non) i) = false := fun i => by
    rw [gt_app]
    by_cases c : i < args.length
    · rw [if_pos c]; exact h0 i
    · rw [if_neg c, gt_rep]; rfl
  have no : ∀ b, ¬ OwnAt (args ++ List.replicate (N.length - vs.length) .non) (start N vs) b := fun b ⟨i, hi, _⟩ => by
    have := nl i
    unfold isL at this
    rw [hi] at this
    cases this
  have ni : ∀ b, ¬ IoAt (args ++ List.replicate (N.length - vs.length) .non) (start N vs) b := fun b ⟨i, hi, _⟩ => by
    have := nl i
    unfold isL at this
    rw [hi] at this
    simp at this
  exact Stp.mk0 (r.mono s.mv.ez s.re.ex s.re.tb (fun i a us hl _ _ => by rw [h0 i] at hl; cases hl) s.re.pt) (s.mv.mono (fun b z => absurd z (no b)) (fun b z => absurd z (ni b)))
end
/-- a look at the names of a def's scope -/
def scC (N P : List Str) (sc : Scope) : Bool :=
  decide (sc.kind = .function) && (!sc.isCoroutine && (!sc.isGenerator && (decide N.Nodup && (decide (N.take P.length = P) && (P.all (fun x => decide (sc.names.lookup x = some .local) || decide (sc.names.lookup x = some .cell)) && sc.names.all (fun y => !decide (y.2 = .free)))))))
theorem fnScope_by {N P : List Str} {sc : Scope} (h : scC N P sc = true) : FnScope N P sc := by
  unfold scC at h
  simp only [Bool.and_eq_true, Bool.not_eq_true', decide_eq_true_eq, List.all_eq_true, Bool.or_eq_true, decide_eq_false_iff_not] at h
  obtain ⟨h1, h2, h3, h4, h5, h6, h7⟩ := h
  exact ⟨h1, h2, h3, h4, h5, h6, h7⟩
/-- a def of the program -/
structure DefI where
  x : Str
  st : Stmt
  N : List Str
  ps : List Str
  body : Ss
  /-- it makes lambdas -/
  lam : Bool := false
def DefI.fd (d : DefI) : Fd := ⟨d.ps.length, d.N.length, d.body⟩
def chkD (M : Nm) (xnm : List Str) (d : DefI) : Bool := scC d.N d.ps (defScope d.st) && (decide (d.ps.length ≤ d.N.length) && chkSs M xnm d.N (defScope d.st) d.body (defBody d.st))
section
variable {P : Program} {w : World} {K : PySem.W.Frag} {mg : Str → Option Value} {base : Heap} {L : Lk} {k : Nat} {xnm : List Str}
/-- what the top left -/
structure Top (K : PySem.W.Frag) (mg : Str → Option Value) (L : Lk) : Prop where
  blt : ∀ x ∈ bltNames, mg x = none
  gl : ∀ (j : Nat) (x : Str) (d : PyData), L.gnm[j]? = some x → L.gl[j]? = some d → (x == ("__debug__" : Str)) = false ∧ ∃ v u, mg x = some u ∧ RelV v u ∧ ∀ Z, Dp K Z v d
  tk : ∀ a o, K.lookup a = some o → o.cls = .type "tuple" → o.dict = none
/-- raising is known -/
def RsAll (P : Program) (w : World) (K : PySem.W.Frag) (mg : Str → Option Value) (base : Heap) (L : Lk) (k : Nat) (xnm : List Str) : Prop :=
  ∀ (Ew : XK) (N : List Str) (sc : Scope) (X : Cx), X.prog = P → X.w = w → X.K = K → X.mg = mg → X.base = base → Cq L (L2.CX P w) k Ew N sc X → Takes X (fun cls d _ H => Ew cls d H) → Rsr L Ew xnm N sc X
theorem cx0_of : ∀ l H s e s', ¬ L2.CX P w l H s (fun _ _ _ => False) e s' := fun l H s e s' h => by
  obtain ⟨_, _, _, _, _, _, _, _, _, _, _, _, z⟩ := h
  exact z
theorem okC {x qual : Str} {st : Stmt} {f : Addr} {fd : FuncData} {N ps : List Str} {k : Nat} {sp : Sp} (F : Fun K x qual st f fd) (S : FnScope N ps (defScope st)) (len : ∀ vs H Q E, sp vs H Q E → vs.length = ps.length)
    (hbody : ∀ (cdv : Value) (A : Around) (outer : List Env) (s : Shared) (H : Hp) (vs : List V) (Q : VK) (E : XK), fd.code = cdv → Room k (A.deeper (envOfC qual (defScope st) s.heap.objs.size f cdv)) → sp vs H Q E →
      ∃ t, PSs (cxOf (L2.CX P w) P w K mg base N qual (defScope st) f cdv A outer s H E) (defBody st) t ∧ t { nx := fun _ H' => Q .non H', rt := Q } (start N vs) H) : FnOk P w K mg base (L2.CX P w) (k + 1) f fd ps sp := by
  obtain ⟨oc, od, kV, doc, pm, an, cdv, ct, osl, rfl, lk, hcd⟩ := F.ex
  exact fn_of lk hcd S len fun A outer s H vs Q E hr hsp => hbody cdv A outer s H vs Q E rfl hr hsp
theorem fn_sound {d : DefI} {f : Nat} {a : Addr} {fd : FuncData} {L' : Lk} (F : Fun K d.x d.x d.st a fd) (ch : chkD L.nm xnm d = true) (top : Top K mg L) (hT : L'.T = L.T) (hx : L'.xc = L.xc) (hf : ∀ args, L'.ft f args = runF L.ft L.gl L.fuel d.fd args)
    (fns : ∀ X : Cx, X.prog = P → X.w = w → X.K = K → X.mg = mg → X.base = base → X.env.code = fd.code → X.env.qual = d.x ++ ".<locals>." → Fns L (L2.CX P w) k X) (rs : RsAll P w K mg base L k xnm) : FnOk P w K mg base (L2.CX P w) (k + 1) a fd d.ps (spF L' K f) := by
  unfold chkD at ch
  simp only [Bool.and_eq_true, decide_eq_true_eq] at ch
  obtain ⟨c1, c2, c3⟩ := ch
  have S := fnScope_by c1
  have len : ∀ vs H Q E, spF L' K f vs H Q E → vs.length = d.ps.length := fun vs H Q E h => by
    obtain ⟨Z, args, r, _, h⟩ := h
    rw [hf] at h
    unfold runF at h
    by_cases q : args.length = d.fd.ar ∧ d.fd.ar ≤ d.fd.slots ∧ okArgs args = true
    · have := r.len
      rw [List.length_map] at this
      rw [← this]
      exact q.1
    · rw [if_neg q] at h
      exact h.elim
  refine okC F S len fun cdv A outer s H vs Q E hcode hr hsp => ?_
  have hlen := len vs H Q E hsp
  have cq : Cq L (L2.CX P w) k E d.N (defScope d.st) (cxOf (L2.CX P w) P w K mg base d.N d.x (defScope d.st) a cdv A outer s H E) := ⟨rfl, rfl, rfl, hr, S.nd, fun pins σ H s e s' I h =>
      passes_call (W := fun cls d _ H => E cls d H) (takes_of rfl rfl rfl rfl) (fun _ _ _ _ h => h) pins σ H s e s' I h, cx0_of, top.blt, top.gl, top.tk⟩
  have sto : Sto d.N (defScope d.st) (cxOf (L2.CX P w) P w K mg base d.N d.x (defScope d.st) a cdv A outer s H E) := by
    refine ⟨rfl, S.nd, rfl, fun x h => ⟨?_, .inl rfl⟩⟩
    unfold isLoc at h
    split at h
    · exact Or.inl (by assumption)
    · exact Or.inr (by assumption)
    · cases h
  have bd : Bd L (L2.CX P w) k E xnm d.N (defScope d.st) (cxOf (L2.CX P w) P w K mg base d.N d.x (defScope d.st) a cdv A outer s H E) := ⟨cq, fns _ rfl rfl rfl rfl rfl hcode.symm rfl, sto, passes_of rfl, rs _ _ _ _ rfl rfl rfl rfl rfl cq (takes_of rfl rfl rfl rfl)⟩
  refine ⟨_, snd_SS bd d.body c3, ?_⟩
  obtain ⟨Z, args, r, h0, h⟩ := hsp
  rw [hf] at h
  rw [hT] at r h
  unfold runF at h
  by_cases q : args.length = d.fd.ar ∧ d.fd.ar ≤ d.fd.slots ∧ okArgs args = true
  · rw [if_pos q] at h
    have hn : vs.length ≤ d.N.length := by rw [hlen]; exact c2
    have al : args.length = d.ps.length := q.1
    have e1 : d.fd.slots - d.fd.ar = d.N.length - vs.length := by rw [hlen]; rfl
    rw [e1] at h
    have own : ∀ b, ¬ OwnAt (args ++ List.replicate (d.N.length - vs.length) .non) (L2.start d.N vs) b := fun b ⟨i, hi, _⟩ => by
      rw [gt_app] at hi
      by_cases c : i < args.length
      · rw [if_pos c, (okArgs_of q.2.2 i).1] at hi; cases hi
      · rw [if_neg c, gt_rep] at hi; cases hi
    refine ⟨H, Z, args ++ List.replicate (d.N.length - vs.length) Slot.non, ⟨re_start (K := K) r hn, fun b z => absurd z (own b), fun _ z => z⟩, ?_⟩
    have eb : d.fd.body = d.body := rfl
    rw [eb] at h
    cases eo : exSs L.ft L.gl L.fuel d.body (args ++ List.replicate (d.N.length - vs.length) .non) with
    | nx e1 =>
      rw [eo] at h
      exact fun Z1 H1 σ1 st => h Z1 H1 (stp_end r h0 q.2.2 hn st) .non .non
    | ret rv e1 =>
      rw [eo] at h
      exact fun Z1 H1 σ1 st u g => h Z1 H1 (stp_end r h0 q.2.2 hn st) u g
    | brk e1 =>
      rw [eo] at h
      exact h.elim
    | exc c x e1 =>
      rw [eo] at h
      exact fun Z1 H1 σ1 st C fld dd hc hd => h.2 Z1 H1 (stp_endV r h.1 hn st) C fld dd (by rw [hx]; exact hc) hd
    | bad =>
      rw [eo] at h
      exact h.elim
  · rw [if_neg q] at h
    exact h.elim
end
end PL

/-! part PLExc -/
set_option Elab.async false
set_option linter.all false
set_option autoImplicit false
set_option maxRecDepth 100000
set_option maxHeartbeats 4000000
/-! BadArgument(..): an own exception whose __init__ calls super().__init__ and keeps its word -/
namespace PL
open PySem PySem.Spec PyProof.Rows L2
theorem sup_eval (env : Env) (fld : Str) (p0 p1 p2 p3 p4 : Pos) (hl : (p2.endLine == p4.line) = true) : eval (.Call (.Attribute (.Call (.Name "super" p0) [] [] p1) "__init__" p2) [.Name fld p3] [] p4) env = (do
      let ov ← attributeBase (.Call (.Name "super" p0) [] [] p1) "__init__" env (eval (.Call (.Name "super" p0) [] [] p1) env)
      standAt p2.atName
      let (f, first) ← holding [ov] (getMethod ov "__init__" (do return (← importBound (.Call (.Name "super" p0) [] [] p1) env).getD true))
      callWith p4 f first (backTo p4 (starEach [.Name fld p3] env)) []) := by
  rw [eval]
  have hp : methodCallPos true (.Call (.Name "super" p0) [] [] p1) env p2 p4 = pure p4 := by
    unfold methodCallPos
    rw [if_pos (by rw [hl]; rfl)]
  have hm : ∀ ov, methodCall (.Call (.Name "super" p0) [] [] p1) "__init__" p2 p4 env ov ([Expr.Name fld p3].length + ([] : List Keyword).length) (backTo p4 (starEach [.Name fld p3] env)) (backToKw p4 (keywordEach [] env)) = (do
      let (f, first) ← holding [ov] (getMethod ov "__init__" (do return (← importBound (.Call (.Name "super" p0) [] [] p1) env).getD true))
      callWith p4 f first (backTo p4 (starEach [.Name fld p3] env)) []) := fun ov => by
    unfold methodCall
    rw [show methodCallForm ([Expr.Name fld p3].length + ([] : List Keyword).length) (backTo p4 (starEach [.Name fld p3] env)) (backToKw p4 (keywordEach [] env)) = true from rfl, hp]
    rfl
  simp only [hm]
/-- what the written part says of C's __init__ -/
structure SupI (P : Program) (K : PySem.W.Frag) (C fI : Addr) (fld : Str) (fd : FuncData) : Prop where
  T : OexC K C
  ex : ∃ (n q : Str) (params : Arguments) (body : List Stmt) (scope : Scope) (dV kV doc pm ct oc : Value) (an od : Option Addr) (osl : Array (Option Value)) (cc cda : Addr) (ar : Arg) (vs : Array Value) (file : Str) (tf : Tok)
      (ccl cl : Value) (cdd cld : Option Addr) (ccs csl : Array (Option Value)) (cdD : ClassData) (p0 p1 p2 p3 p4 p5 p6 p7 p8 p9 : Pos),
    fd = PySem.W.ksFn n q params body scope dV kV doc pm an (.ref cda) ct cc ∧ K.lookup fI = some ⟨oc, od, .func fd, osl⟩ ∧ PySem.W.codeIn K (.ref cda) q = true ∧
    (params.posonlyargs ++ params.args).head? = some ar ∧ ar.arg = "self" ∧
    K.lookup cda = some ⟨ccl, cdd, .fields vs, ccs⟩ ∧ vs[2]? = some (.str file tf) ∧ ((P.main.file : Str) == file) = true ∧
    K.lookup cc = some ⟨cl, cld, .cell (some (.ref C)), csl⟩ ∧ PySem.W.clsIn K C = some cdD ∧ PySem.W.mroIn K C (.ref C) = some true ∧
    PySem.W.ks_superIn K C C "__init__" = some (some (.builtin "ValueError.__init__")) ∧ PySem.W.nsIn K cStatics "thirdparty.any" = some none ∧ PySem.W.subIn K (.ref C) (.type "ValueError") = some true ∧
    PySem.W.findIn K (.ref C) fld = some none ∧ (P.main.scope.names.lookup ("super" : Str)).isSome = false ∧
    (scope.names.lookup ("super" : Str) = some .globalImplicit ∧ scope.names.lookup ("__class__" : Str) = some .free ∧ scope.names.lookup ("self" : Str) = some .local ∧ scope.names.lookup fld = some .local ∧
      scope.kind = .function ∧ scope.isCoroutine = false ∧ scope.isGenerator = false ∧ (∀ x ∈ scope.names, x.2 ≠ .cell) ∧ (fld == ("__debug__" : Str)) = false ∧ fld ≠ "self") ∧
    (p2.endLine == p4.line) = true ∧ body = [.Expr (.Call (.Attribute (.Call (.Name "super" p0) [] [] p1) "__init__" p2) [.Name fld p3] [] p4) p5, .Assign [.Attribute (.Name "self" p6) fld p7] (.Name fld p8) p9]
section
variable {P : Program} {w : World} {K : PySem.W.Frag} {mg : Str → Option Value} {base : Heap} {C fI : Addr} {fld : Str} {fd : FuncData}
theorem init_raw (S : SupI P K C fI fld fd) {A : Around} {hp : Heap} {g : Array GenState} {d : Drawn} {t : Nat} {os : OsState} (M : Mod K mg base) (bk : ∀ b o, base.get? b = some o → hp.get? b = some o) (hms : mg "super" = none) {e t1 : Addr} (hbe : base.get? e = none) (hroom : A.depth < recursionLimit)
    {args : Args} {v : Value} {R : Result → Shared → Prop} (hb : BindsTo ⟨hp, g, d, t, os⟩ fd args [("self", .ref e), (fld, v)]) (he : hp.get? e = some ({ cls := .ref C, dict := none, data := .fields #[.ref t1, .none, .none, .none, .bool false, .none] } : Obj))
    (h : ∀ (h' : Heap) (tk t2 dx : Addr), (∀ b o, b ≠ e → hp.get? b = some o → h'.get? b = some o) → hp.objs.size ≤ dx → dx ≠ e → h'.get? e = some ({ cls := .ref C, dict := some dx, data := .fields #[.ref t2, .none, .none, .none, .bool false, .none] } : Obj) →
      h'.Ns1 dx (fun y => if y = fld then some v else none) → R (.ok (.ret .none)) ⟨h', g, d, tk, os⟩) :
    codeAny (model P w) A (.call (.ref fI) args) R ⟨hp, g, d, t, os⟩ := by
  obtain ⟨n, q, params, body, scope, dV, kV, doc, pm, ct, oc, an, od, osl, cc, cda, ar, vs, file, tf, ccl, cl, cdd, cld, ccs, csl, cdD, p0, p1, p2, p3, p4, p5, p6, p7, p8, p9, rfl, lk, hcd, hpar, har, hcode, hvs, hfile, hcell, hD, hsub, hsup, hno, hVE, hfi, htop, ⟨l1, l2, l3, l4, l5, l6, l7, l8, l9, l10⟩, hline, rfl⟩ := S.ex
  obtain ⟨nm, qn, N', bs, bm, sn, sub, ab, col, dd, k0, k1, k2, k3, k5, hC, hbm⟩ := S.T.cls
  have hcl : PySem.W.clsIn K C = some { name := nm, bases := bs, mro := .ref C :: bm, ns := N', qualname := qn, hasDict := true, slotNames := sn, subclasses := sub, abstract := ab, collection := col, hasDel := false } := by unfold PySem.W.clsIn; rw [hC] <;> rfl
  have X : K.In hp := M.kin.keeps bk
  obtain ⟨mb, hmb, hbb⟩ := M.blt
  refine ks_codeAny_call_defAt (fd := PySem.W.ksFn n q params _ scope dV kV doc pm an (.ref cda) ct cc) (binds := [("self", .ref e), (fld, v)]) hroom (X _ _ lk) rfl (M.nolimit.keeps bk) (PySem.W.codeRec_of X hcd) rfl hb l8
    (fun x hx => by
      rcases List.mem_cons.mp hx with rfl | hx
      · exact l3
      · rcases List.mem_cons.mp hx with rfl | hx
        · exact l4
        · cases hx) (fun h0 hns k0' => ?_) l6 l7 l5
  have X0 : K.In h0 := X.keeps k0'
  have B0 : ∀ b o, base.get? b = some o → h0.get? b = some o := fun b o z => k0' b o (bk b o z)
  have he0 := k0' _ _ he
  obtain ⟨oD, hD1, hD2⟩ : ∃ oD, h0.get? C = some oD ∧ oD.data = .cls cdD := by
    unfold PySem.W.clsIn at hD
    split at hD
    · rename_i c d cd' sl ho
      cases hD
      exact ⟨_, X0 _ _ ho, rfl⟩
    · cases hD
  have nse : ∀ {h1 : Heap}, (∀ b o, h0.get? b = some o → h1.get? b = some o) → h1.Ns hp.objs.size (fun x => List.lookup x ([("self", .ref e), (fld, v)] : List (Str × Value)).reverse) := fun {h1} kk => by
    obtain ⟨oL, es, ep, hL, r⟩ := hns
    exact ⟨oL, es, ep, kk _ _ hL, r⟩
  have lself : List.lookup ("self" : Str) ([("self", .ref e), (fld, v)] : List (Str × Value)).reverse = some (.ref e) := by
    have : (("self" : Str) == fld) = false := by simpa using fun z => l10 z.symm
    simp [List.lookup, this]
  have lfld : List.lookup fld ([("self", .ref e), (fld, v)] : List (Str × Value)).reverse = some v := by simp [List.lookup]
  have ne : e ≠ C := fun z => by
    rw [z] at he
    have z2 := X _ _ hC
    rw [he] at z2
    cases z2
  have nL : hp.objs.size ≠ e := Nat.ne_of_gt (Heap.lt_size he)
  refine ks_wpAt_execs_cons (ks_wpAt_Expr_any (ks_wpAt_MethodCall ?_ (sup_eval _ _ _ _ _ _ _ hline)) (by unfold interactive; rw [show (callEnv (PySem.W.ksFn n q params _ scope dV kV doc pm an (.ref cda) ct cc) _ fI).scope.kind = .function from l5]; rfl))
  refine ks_wpAt_super_base (cc := cda) (f := fI) l1 l2 (by decide) rfl (X0 _ _ lk) rfl hpar rfl (X0 _ _ hcode) rfl hvs hfile htop ?_
  refine PySem.W.ks_loadName_global l5 l1 (Calls.loadGlobal_builtin (M.glob.keeps B0) hms (hmb.keeps B0) ((hbb _ (by decide)).trans (by decide +kernel)) ⟨rfl, ?_⟩)
  refine wpAny_loadName_free l5 l2 rfl ⟨_, X0 _ _ hcell, rfl⟩ ?_
  rw [har]
  refine wpAny_loadName_local l5 l3 hns lself ?_
  refine ks_wpAny_isType_cls hD1 hD2 ⟨rfl, ?_⟩
  refine ks_wpAny_call_super hD1 hD2 he0 rfl (fun c z => by cases z) (PySem.W.looks_mroIn X0 hsub) (fun h1 e1 k1' => ?_)
  have X1 : K.In h1 := X0.keeps k1'
  have I1 : PySem.W.InstAt h1 e { cls := .ref C, dict := none, data := .fields #[.ref t1, .none, .none, .none, .bool false, .none] } C none := ⟨k1' _ _ he0, rfl, rfl, trivial⟩
  unfold PySem.W.ks_superIn at hsup
  rw [hD] at hsup
  refine PySem.W.kxs_getMethod PySem.W.kxs_ValueError e1 (PySem.W.looks_opaque X1 hno) (l₀ := cdD.mro) (fun A' Q' E' s' k' q' => wpAny_bind ((PySem.W.looks_clsIn X1 hD) A' _ E' s' k' (wpAny_pure q'))) rfl X1 hsup (I1.type.andThen (PySem.W.looks_subIn X1 hVE)) ne (by decide) ?_
  refine PySem.W.kxs_callWith (i := "ValueError.__init__") (x := e) (by rfl) (Calls.evalArgs_plain ?_)
  refine Calls.spliced_cons ?_
  have keep2 : ∀ b o, h0.get? b = some o → (h1.push (PySem.W.kxs_mw "ValueError.__init__" e)).get? b = some o := fun b o z => Heap.get?_push_of_some _ (k1' b o z)
  refine wpAny_Name (wpAny_loadName_local l5 l4 (nse keep2) lfld ?_) l9
  refine Calls.spliced_nil ⟨?_, ?_⟩
  · exact Heap.get?_push_at rfl rfl
  have hu : (h1.push (PySem.W.kxs_mw "ValueError.__init__" e)).get? h1.objs.size = some (PySem.W.kxs_mw "ValueError.__init__" e) := Heap.get?_push_at rfl rfl
  have X2 : K.In (h1.push (PySem.W.kxs_mw "ValueError.__init__" e)) := X0.keeps keep2
  refine wpAny_call (codeAny_of_tree ?_)
  show wpAny _ _ (callAny (.ref h1.objs.size) ⟨[v], []⟩) _ _ _
  simp only [callAny]
  refine wpAny_bind (wpAny_load hu ?_)
  simp only [PySem.W.kxs_mw, show (Value.type "method-wrapper" == Value.type "method" || Value.type "method-wrapper" == Value.type "builtin_function_or_method" || Value.type "method-wrapper" == Value.type "method-wrapper") = true by decide, if_true]
  refine PySem.W.KFB.if_so (by decide) ?_
  refine wpAny_bind (PySem.W.check_bound_init F.excBase_ValueError.toExcCallFacts (X2 _ _ hC) (keep2 _ _ he0) rfl ?_)
  refine wpAny_bind (wpAny_pure (wpAny_pure ?_))
  refine ⟨plainId_quiet F.excBase_ValueError.init.plain _, codeAny_builtin F.excBase_ValueError.initEntry ?_⟩
  refine PySem.W.exc_init_tree (cls := .ref C) (t0 := t1) (dv := none) (c2 := .none) (c3 := .none) (b4 := .bool false) (keep2 _ _ he0) (by show 1 ≤ sizeLine; rw [sizeLine_eq]; decide) fun h3 k3' e3 _ => ?_
  have keep3 : ∀ b o, b ≠ e → h0.get? b = some o → h3.get? b = some o := fun b o hb z => k3' b o hb (keep2 b o z)
  have X3 : K.In h3 := fun b o z => keep3 b o (fun ze => by have z2 := M.kin _ _ z; rw [ze, hbe] at z2; cases z2) (X0 _ _ z)
  have ns3 : h3.Ns hp.objs.size (fun x => List.lookup x ([("self", .ref e), (fld, v)] : List (Str × Value)).reverse) := by
    obtain ⟨oL, es, ep, hL, r⟩ := hns
    exact ⟨oL, es, ep, keep3 _ _ nL hL, r⟩
  show PySem.wpAt (model P w) _ (.func _ (callEnv (PySem.W.ksFn n q params _ scope dV kV doc pm an (.ref cda) ct cc) hp.objs.size fI)) (execs [_] (callEnv (PySem.W.ksFn n q params _ scope dV kV doc pm an (.ref cda) ct cc) hp.objs.size fI)) _ _ ⟨h3, g, d, _, os⟩
  refine ks_wpAt_execs_cons (ks_wpAt_Assign_Attr ?_)
  refine wpAt_of_wpAny ?_
  refine wpAny_Name (wpAny_loadName_local l5 l4 ns3 lfld ?_) l9
  refine wpAny_Name (wpAny_loadName_local l5 l3 ns3 lself ?_) (by decide)
  refine PySem.W.set_plain X3 (ox := { cls := .ref C, dict := none, data := .fields #[.ref _, .none, .none, .none, .bool false, .none] }) (od := none) ⟨e3, rfl, rfl, trivial⟩ S.T.sa ?_
  refine PySem.HandSPX.exc_osa X3 e3 hcl (show PySem.HandSPX.refsVE (.ref C :: bm) = true from hbm) rfl hfi (fun h4 tk4 dx k4 dn dne hx4 hn4 => ?_)
  refine wpAt_of_wpAny (wpAny_pure ?_)
  exact h h4 tk4 _ dx (fun b o hb z => k4 b o hb (keep3 b o hb (k0' b o z))) (by obtain ⟨oL, es, ep, hL, r⟩ := ns3; exact Nat.le_trans (Nat.le_of_lt (Heap.lt_size hL)) dn) dne hx4 hn4
/-- what __init__ does -/
def spI (C : Addr) (fld : Str) : Sp := fun vs H Q _ => ∃ (e : Addr) (x : Str), vs = [.ref e, .str x] ∧ H e = some (exo e C none) ∧ ∀ d, H d = none → d ≠ e → Q .non (upd (upd H d (exd d [(fld, .str x)])) e (exo e C (some d)))
theorem init_ok {CX : CXT} (S : SupI P K C fI fld fd) (hms : mg "super" = none) : FnOk P w K mg base CX 0 fI fd ["self", fld] (spI C fld) := by
  refine ⟨fun vs H Q E h => ?_, fun A outer s H args us vs Q E hr e0 hb rv hsp => ?_⟩
  · obtain ⟨e, x, rfl, _⟩ := h
    rfl
  obtain ⟨e, x, rfl, he, hq⟩ := hsp
  cases rv with
  | @cons _ u0 _ ur ra rw' =>
    obtain rfl : u0 = Value.ref e := ra
    cases rw' with
    | @cons _ u1 _ ur rb rw2 =>
      cases rw2
      obtain ⟨tk, rfl⟩ : ∃ tk, u1 = Value.str x tk := rb
      obtain ⟨t1, ho⟩ := exo_at e0.hok he
      obtain ⟨hp, g, d, t, os⟩ := s
      have hbe : base.get? e = none := by
        cases z : base.get? e with
        | none => rfl
        | some o =>
          have q := (e0.bs e o z).2
          rw [he] at q
          cases q
      refine init_raw S e0.mod (fun b o z => (e0.bs b o z).1) hms hbe hr.depth hb ho fun h' tk' t2 dx k dn dne hx hn => ?_
      have hnd : H dx = none := e0.hok.fresh dn
      have nd : ∀ {b : Addr} {o : Obj}, hp.get? b = some o → b ≠ dx := fun {b o} q => Nat.ne_of_lt (Nat.lt_of_lt_of_le (Heap.lt_size q) dn)
      have na : ∀ {b : Addr}, H b = none → b ≠ e := fun {b} n z => by
        rw [z, he] at n
        cases n
      have Un1 : Un (frs outer) [] H (upd (upd H dx (exd dx [(fld, .str x)])) e (exo e C (some dx))) hp h' := {
        keep := fun b o q n _ _ => k b o (na n) q
        slot := fun b o q n _ _ => ⟨o.slots, k b o (na n) q⟩
        free := fun b o q n _ => by rw [upd_ne (na n), upd_ne (nd q)]; exact n
        there := fun b o q _ => by
          by_cases hb : b = e
          · exact ⟨_, by rw [hb]; exact hx⟩
          · exact ⟨o, k b o hb q⟩
        tups := fun b xs q => by rw [upd_ne (at_ne he q exo_tup), upd_ne (ne_of_none q hnd)]; exact q
        frzs := fun b o v q => by rw [upd_ne (at_ne he q exo_frz), upd_ne (ne_of_none q hnd)]; exact q
        tbls := fun b ps q => ⟨#[], by rw [upd_ne (at_ne he q exo_tbl), upd_ne (ne_of_none q hnd), q]; simp⟩ }
      refine ⟨.non, _, rfl, e0.bare, Un1, fun b o q => ?_, rfl, hq dx hnd dne⟩
      by_cases hb : b = e
      · subst hb
        rw [upd_same] at q
        cases q
        exact exo_ok hx
      · rw [upd_ne hb] at q
        by_cases hd : b = dx
        · subst hd
          rw [upd_same] at q
          cases q
          exact exd_ok hn (relO_put (fs := []) (show RelV (.str x) (.str x tk) from ⟨tk, rfl⟩) fun g => True.intro)
        · rw [upd_ne hd] at q
          exact (e0.hok b o q).stay (fun c v hc z => k c v (by
              rcases hc with hc | hc
              · rw [hc]
                exact hb
              · exact at_ne he hc exo_own) z)
            (fun c hc => by rw [upd_ne (at_ne he hc exo_own), upd_ne (ne_of_none hc hnd)]; exact hc) (fun c xs hc => by rw [upd_ne (at_ne he hc exo_tup), upd_ne (ne_of_none hc hnd)]; exact hc)
/-- the exceptions of the program -/
structure XcOk (P : Program) (K : PySem.W.Frag) (mg : Str → Option Value) (L : Lk) (xnm : List Str) : Prop where
  sup : mg "super" = none
  run : ∀ (c : Nat) (x : Str), xnm[c]? = some x → (x == ("__debug__" : Str)) = false ∧ ∃ (C fI : Addr) (fld : Str) (fd : FuncData), L.xc[c]? = some (C, fld) ∧ SupI P K C fI fld fd ∧ PySem.W.findIn K (.ref C) "__init__" = some (some (.ref fI)) ∧
    PySem.W.typeIn K (.ref fI) = some (.type "function") ∧ Binds K fd ["self", fld] [] ∧ mg x = some (.ref C)
theorem rs_all {L : Lk} {k : Nat} {xnm : List Str} (S : XcOk P K mg L xnm) : RsAll P w K mg base L (k + 1) xnm := by
  intro Ew N sc X hP hw hK hmg hbs cq tk
  refine ⟨fun c x e e' np cp pos hx hg hs he => ?_⟩
  obtain ⟨nd, C, fI, fld, fd, hxc, hS, iC, tI, hb, hm⟩ := S.run c x hx
  subst hP hw hK hmg hbs
  have gx : Gl X x := gl_of (by rw [cq.sc]; exact hg)
  have F1 := init_ok (w := X.w) (base := X.base) (CX := L2.CX X.prog X.w) hS S.sup
  refine psImp (ps_raise cq.calm tk (pmk_oex (k := 0) (ds := []) (dvs := []) hS.T iC tI F1 (cq.room.mono (by omega)) hb .nil (fun pins σ H s e s' I h => absurd h (cx0_of _ _ _ _ _)) gx hm (pa_cons he pa_nil (star_cons hs)) nd (star_cons hs) rfl)) fun D σ H q => ?_
  obtain ⟨Hb, Z, env, a, h⟩ := q
  simp only [exS] at h
  refine ⟨Z, env, a.re, PostS.of a h fun r e1 Z1 H1 s1 h1 u g => ?_⟩
  cases r with
  | l xs => exact h1.elim
  | v d =>
    cases d with
    | str z =>
      obtain rfl : u = .str z := dp_str g
      refine ⟨(by show 1 ≤ 1000; decide), fun p hp => ⟨p, z, rfl, upd_same, fun dd hdd hne => ⟨rfl, dd, [(fld, .str z)], upd_same, ?_, ?_, ?_⟩⟩⟩
      · rw [upd_ne hne, upd_same]
      · rw [upd_ne hne] at hdd; exact hdd
      · have hd1 : H1 dd = none := by rw [upd_ne hne] at hdd; exact hdd
        have e1 : upd (del (upd (upd (upd H1 p (exo p C none)) dd (exd dd [(fld, .str z)])) p (exo p C (some dd))) p) dd (.xd [(fld, .str z)]) = upd H1 dd (.xd [(fld, .str z)]) := by
          funext b
          by_cases hb1 : b = dd
          · subst hb1; rw [upd_same, upd_same]
          · rw [upd_ne hb1, upd_ne hb1]
            by_cases hb2 : b = p
            · subst hb2; rw [del_same, hp]
            · rw [del_ne hb2, upd_ne hb2, upd_ne hb1, upd_ne hb2]
        rw [e1]
        exact h1 Z1 _ σ ((s1.trans (Stp.new s1.re hd1)).toS a.re) C fld dd hxc upd_same
    | none => exact h1.elim
    | bool b => exact h1.elim
    | int b => exact h1.elim
    | tuple b => exact h1.elim
    | list b => exact h1.elim
    | _ => exact h1.elim
end
end PL

/-! part PLAll -/
set_option Elab.async false
set_option linter.all false
set_option autoImplicit false
set_option maxRecDepth 100000
set_option maxHeartbeats 4000000
/-! the whole program: every def keeps its promise, by the depth of calls -/
namespace PL
open PySem PySem.Spec PyProof.Rows L2
/-- the program: its defs, constants, exceptions -/
structure Prg where
  D : List DefI
  gl : List PyData
  gnm : List Str
  xnm : List Str
  kws : List (Nat × List Str × List Nat)
def Prg.fds (G : Prg) : List Fd := G.D.map DefI.fd
def Prg.lk (G : Prg) (T : Tb) (xc : List (Addr × Str)) (fuel n : Nat) : Lk := { T := T, ft := callF G.fds G.gl fuel n, gl := G.gl, fuel := fuel, fnm := G.D.map (·.x), gnm := G.gnm, xc := xc, kws := G.kws }
def Prg.nm (G : Prg) : Nm := ⟨G.D.map (·.x), G.gnm, G.kws, []⟩
def tlOf (d : DefI) (tl : List Str) : List Str := if d.lam then tl else []
def Prg.nmT (G : Prg) (tl : List Str) : Nm := ⟨G.D.map (·.x), G.gnm, G.kws, tl⟩
def Prg.lkT (G : Prg) (T : Tb) (xc : List (Addr × Str)) (fuel n : Nat) (tl : List Str) : Lk := { G.lk T xc fuel n with tl := tl }
def Prg.chk (G : Prg) (tl : List Str) : Bool := G.D.all fun d => chkD (G.nmT (tlOf d tl)) G.xnm d
section
variable {P : Program} {w : World} {K : PySem.W.Frag} {mg : Str → Option Value} {base : Heap} {G : Prg} {T : Tb} {xc : List (Addr × Str)} {fuel : Nat}
structure LinkD (K : PySem.W.Frag) (mg : Str → Option Value) (kws : List (Nat × List Str × List Nat)) (f : Nat) (d : DefI) (a : Addr) (fd : FuncData) : Prop where
  nd : (d.x == ("__debug__" : Str)) = false
  fn : Fun K d.x d.x d.st a fd
  mg : mg d.x = some (.ref a)
  kp : PySem.W.keepIn K (.ref a) = true
  bd : Binds K fd d.ps []
  kw : ∀ ks perm, (f, ks, perm) ∈ kws → KBn K fd d.ps 0 ks (fun _ ws => perm.map fun j => ws.getD j .none) (fun _ zs => perm.map fun j => zs.getD j .non)
structure Link (K : PySem.W.Frag) (mg : Str → Option Value) (P : Program) (G : Prg) (L : Lk) : Prop where
  ds : ∀ f d, G.D[f]? = some d → ∃ a fd, LinkD K mg G.kws f d a fd
  xc : XcOk P K mg L G.xnm
  top : Top K mg L
theorem fn_bad {CX : CXT} {k : Nat} {a : Addr} {fd : FuncData} {ps : List Str} {f : Nat} {L : Lk} (h : ∀ args, L.ft f args = .bad) : FnOk P w K mg base CX k a fd ps (spF L K f) := by
  have z : ∀ vs H Q E, ¬ spF L K f vs H Q E := fun vs H Q E q => by
    obtain ⟨Z, args, r, h0, q⟩ := q
    rw [h] at q
    exact q
  exact ⟨fun vs H Q E q => absurd q (z _ _ _ _), fun A outer s H args us vs Q E _ _ _ _ q => absurd q (z _ _ _ _)⟩
/-- what a def that makes lambdas has -/
structure LamD (K : PySem.W.Frag) (mg : Str → Option Value) (base : Heap) (T : Tb) (d : DefI) (fd : FuncData) (c Pt : Addr) : Prop where
  tb : LamX.TabB base mg c Pt
  code : fd.code = .ref c
  mem : (Pt, d.x ++ ".<locals>." ++ "<lambda>") ∈ T
  uniq : ∀ p ∈ T, p.1 = Pt → p.2 = d.x ++ ".<locals>." ++ "<lambda>"
/-- the fns of a def's body -/
theorem fns_of {n : Nat} {tl : List Str} {d : DefI} {fd : FuncData} {X : Cx} (e1 : X.prog = P) (e2 : X.w = w) (e3 : X.K = K) (e4 : X.mg = mg) (e5 : X.base = base) (e6 : X.env.code = fd.code) (e7 : X.env.qual = d.x ++ ".<locals>.")
    (ok : ∀ f x, (G.lk T xc fuel n).fnm[f]? = some x → FnIn (G.lk T xc fuel n) (L2.CX P w) (3 * n + 1) X f x) (tp : tl ≠ [] → ∀ kd x, tl[kd]? = some x → TlP K mg (G.lkT T xc fuel n tl) kd x) (lam : tl ≠ [] → ∃ c Pt, LamD K mg base T d fd c Pt) :
    Fns (G.lkT T xc fuel n tl) (L2.CX P w) (3 * n + 3) X := by
  have ok' : ∀ f x, (G.lkT T xc fuel n tl).fnm[f]? = some x → FnIn (G.lkT T xc fuel n tl) (L2.CX P w) (3 * n + 1) X f x := fun f x hx => by
    have h := ok f x hx
    exact ⟨h.nd, h.ex⟩
  have more : ∀ f x, (G.lkT T xc fuel n tl).fnm[f]? = some x → FnIn (G.lkT T xc fuel n tl) (L2.CX P w) (3 * n + 3) X f x := fun f x hx => by
    obtain ⟨nd, a, fd, ps, h1, h2, h3, h4, h5⟩ := ok' f x hx
    exact ⟨nd, a, fd, ps, h1, h2, h3, h4.mono (by omega), h5⟩
  refine ⟨more, fun z => ?_⟩
  obtain ⟨c, Pt, l⟩ := lam z
  exact ⟨by rw [e1, e2], ⟨3 * n + 1, rfl, ok'⟩, fun kd x hx => by rw [e3, e4]; exact tp z kd x hx, c, Pt, by rw [e5, e4]; exact l.tb, e6.trans l.code, by rw [e7]; exact l.mem, fun p hp e => by rw [e7]; exact l.uniq p hp e⟩
theorem all_ok {tl : List Str} (ch : G.chk tl = true) (xcok : ∀ n, Link K mg P G (G.lk T xc fuel n)) (tp : ∀ n kd x, tl[kd]? = some x → TlP K mg (G.lkT T xc fuel n tl) kd x)
    (lam : ∀ f d a fd, G.D[f]? = some d → d.lam = true → LinkD K mg G.kws f d a fd → ∃ c Pt, LamD K mg base T d fd c Pt) : ∀ (n : Nat) (X : Cx), X.prog = P → X.w = w → X.K = K → X.mg = mg → X.base = base → ∀ f x, (G.lk T xc fuel n).fnm[f]? = some x → FnIn (G.lk T xc fuel n) (L2.CX P w) (3 * n + 1) X f x := by
  intro n
  induction n with
  | zero =>
    intro X e1 e2 e3 e4 e5 f x hx
    have hx' : (G.D.map (·.x))[f]? = some x := hx
    rw [List.getElem?_map] at hx'
    cases hd : G.D[f]? with
    | none => rw [hd] at hx'; cases hx'
    | some d =>
      rw [hd] at hx'
      obtain rfl : d.x = x := Option.some.inj hx'
      obtain ⟨a, fd, ln⟩ := (xcok 0).ds f d hd
      subst e1 e2 e3 e4 e5
      exact ⟨ln.nd, a, fd, d.ps, ln.mg, ln.kp, ln.bd, fn_bad fun _ => rfl, ln.kw⟩
  | succ n ih =>
    intro X e1 e2 e3 e4 e5 f x hx
    have hx' : (G.D.map (·.x))[f]? = some x := hx
    rw [List.getElem?_map] at hx'
    cases hd : G.D[f]? with
    | none => rw [hd] at hx'; cases hx'
    | some d =>
      rw [hd] at hx'
      obtain rfl : d.x = x := Option.some.inj hx'
      obtain ⟨a, fd, ln⟩ := (xcok 0).ds f d hd
      have cd : chkD (G.nmT (tlOf d tl)) G.xnm d = true := by
        unfold Prg.chk at ch
        rw [List.all_eq_true] at ch
        exact ch d (List.mem_of_getElem? hd)
      have isl : tlOf d tl ≠ [] → d.lam = true ∧ tlOf d tl = tl := fun z => by
        unfold tlOf at z ⊢
        by_cases q : d.lam = true
        · exact ⟨q, if_pos q⟩
        · rw [if_neg q] at z
          exact absurd rfl z
      subst e1 e2 e3 e4 e5
      refine ⟨ln.nd, a, fd, d.ps, ln.mg, ln.kp, ln.bd, fn_sound (L := G.lkT T xc fuel n (tlOf d tl)) (k := 3 * n + 3) (xnm := G.xnm) ln.fn cd ⟨(xcok n).top.blt, (xcok n).top.gl, (xcok n).top.tk⟩ rfl rfl (fun args => ?_)
        (fun X' a1 a2 a3 a4 a5 a6 a7 => fns_of (d := d) a1 a2 a3 a4 a5 a6 a7 (ih X' a1 a2 a3 a4 a5) (fun z => by rw [(isl z).2]; exact tp n) fun z => lam f d a fd hd (isl z).1 ln) (rs_all (k := 3 * n + 2) ⟨(xcok n).xc.sup, (xcok n).xc.run⟩), ln.kw⟩
      show callF G.fds G.gl fuel (n + 1) f args = _
      simp only [callF]
      have : G.fds[f]? = some d.fd := by unfold Prg.fds; rw [List.getElem?_map, hd]; rfl
      rw [this]
      rfl
def Prg.lkL (G : Prg) (T : Tb) (xc : List (Addr × Str)) (fuel n : Nat) (d : DefI) : Lk := { G.lk T xc fuel n with ft := fun _ args => runF (callF G.fds G.gl fuel n) G.gl fuel d.fd args }
/-- the law's own def -/
theorem law_ok {d : DefI} {tl : List Str} {n : Nat} {a c Pt : Addr} {fd : FuncData} (ch : G.chk tl = true) (lk : ∀ n, Link K mg P G (G.lk T xc fuel n)) (cl : chkD (G.nmT tl) G.xnm d = true) (F : Fun K d.x d.x d.st a fd)
    (tp : ∀ n kd x, tl[kd]? = some x → TlP K mg (G.lkT T xc fuel n tl) kd x) (lam : ∀ f d a fd, G.D[f]? = some d → d.lam = true → LinkD K mg G.kws f d a fd → ∃ c Pt, LamD K mg base T d fd c Pt) (ld : LamD K mg base T d fd c Pt) :
    FnOk P w K mg base (L2.CX P w) (3 * n + 4) a fd d.ps (spF (G.lkL T xc fuel n d) K 0) := by
  have ok := all_ok (w := w) (base := base) ch lk tp lam n
  exact fn_sound (L := G.lkT T xc fuel n tl) (L' := G.lkL T xc fuel n d) (k := 3 * n + 3) (xnm := G.xnm) F cl ⟨(lk n).top.blt, (lk n).top.gl, (lk n).top.tk⟩ rfl rfl (fun args => rfl)
    (fun X a1 a2 a3 a4 a5 a6 a7 => fns_of (d := d) a1 a2 a3 a4 a5 a6 a7 (ok X a1 a2 a3 a4 a5) (fun _ => tp n) fun _ => ⟨c, Pt, ld⟩) (rs_all (k := 3 * n + 2) ⟨(lk n).xc.sup, (lk n).xc.run⟩)
end
end PL

/-! part PLRow -/
set_option Elab.async false
set_option linter.all false
set_option autoImplicit false
set_option maxRecDepth 100000
set_option maxHeartbeats 4000000
/-! the law at a script -/
namespace PL
open PySem PySem.Spec PyProof.Rows L2
section
variable {P : Program} {w : World} {K : PySem.W.Frag} {mg : Str → Option Value} {base : Heap} {G : Prg} {T : Tb} {xc : List (Addr × Str)} {fuel : Nat}
def isTrue : FOut → Bool
  | .ok (.v (.bool true)) _ => true
  | _ => false
/-- the program's law at a script -/
def Prg.run (G : Prg) (d : DefI) (fuel n : Nat) (ns : List Int) : FOut := runF (callF G.fds G.gl fuel n) G.gl fuel d.fd [.val (.list (ns.map .int))]
def noHp : Hp := fun _ => none
theorem no_ex {H : Hp} : Ex noHp H := ⟨fun _ _ h => (by cases h), fun _ h => absurd rfl h⟩
theorem no_tups : TupsOk noHp := fun _ _ h => by cases h
/-- what is known of a script's heap -/
theorem known_sq {H : Hp} {a : Addr} {us : List V} (h : SqL K H a us) : ∃ Z, SqL K Z a us ∧ Ex Z H ∧ TupsOk Z := by
  rcases h with (h | ⟨o, h⟩) | h
  · exact ⟨upd noHp a (.lst us), .inl (.inl upd_same), no_ex.put h, no_tups.upd trivial⟩
  · exact ⟨upd noHp a (.frz o (.lst us)), .inl (.inr ⟨o, upd_same⟩), no_ex.put h, no_tups.upd trivial⟩
  · exact ⟨noHp, .inr h, no_ex, no_tups⟩
theorem spF_script {d : DefI} {n : Nat} {ns : List Int} {a : Addr} {H : Hp} {E : XK} (hT : LamX.Tabs T H) (hs : SqL K H a (ns.map V.int)) (hr : isTrue (G.run d fuel n ns) = true) : spF (G.lkL T xc fuel n d) K 0 [.ref a] H (fun v _ => v = .bl true) E := by
  obtain ⟨Z, hs', ez, pz⟩ := known_sq hs
  have hd : Dp K Z (.ref a) (.list (ns.map .int)) := .lst hs' (dpa_int_list ns)
  refine ⟨Z, [.val (.list (ns.map .int))], ⟨rfl, fun i => ?_, fun i j b hi _ _ _ => ?_, ez, hT, pz⟩, fun i hi => ?_, ?_⟩
  · cases i with
    | zero => exact ⟨_, rfl, hd⟩
    | succ i => trivial
  · cases i with
    | zero => cases hi
    | succ i => cases hi
  · cases i with
    | zero => cases hi
    | succ i => cases hi
  · show match runF (callF G.fds G.gl fuel n) G.gl fuel d.fd [.val (.list (ns.map .int))] with
      | .ok r args' => _
      | .exc c s => _
      | .bad => _
    unfold Prg.run at hr
    cases e : runF (callF G.fds G.gl fuel n) G.gl fuel d.fd [.val (.list (ns.map .int))] with
    | bad => rw [e] at hr; cases hr
    | exc c s => rw [e] at hr; cases hr
    | ok r args' =>
      rw [e] at hr
      unfold isTrue at hr
      split at hr
      · rename_i ee
        cases ee
        intro Z1 H1 s u g
        have g' : Dp K Z1 u (.bool true) := g
        cases g'
        rfl
      · cases hr
end
end PL

/-! part PLHead -/
set_option Elab.async false
set_option linter.all false
set_option autoImplicit false
set_option maxRecDepth 100000
set_option maxHeartbeats 4000000
/-! the head: what the top of a law's program leaves, by one look -/
namespace PL
open PySem PySem.Spec PyProof.Rows L2
/-- an exception class: its name, its field, the def of its __init__ -/
structure XcI where
  x : Str
  fld : Str
  st : Stmt
abbrev InV : Type := Option (Str × Str × Arguments × FuncBody × Scope × Addr × Value × Addr)
def xC (K : PySem.W.Frag) (i : XcI) : Addr := He.ga K i.x
def xI (K : PySem.W.Frag) (i : XcI) : Addr := He.ma K (He.ga K i.x) "__init__"
def inObs (K : PySem.W.Frag) (i : XcI) : InV := match K.lookup (xI K i) with
  | some ⟨_, _, .func fd, _⟩ => some (fd.name, fd.qualname, fd.params, fd.body, fd.scope, fd.globals, fd.defaults, fd.builtins)
  | _ => none
def XcI.val (i : XcI) : InV := some ("__init__", i.x ++ ".__init__", defArgs i.st, .stmts (defBody i.st), defScope i.st, mainGlobals, .none, builtinsNs)
/-- the code object and the closure of an __init__ -/
def cdB (P : Program) (K : PySem.W.Frag) (cd : Value) : Bool := match cd with
  | .ref c => (match K.lookup c with
    | some ⟨_, _, .fields vs, _⟩ => (match (vs[2]? : Option Value) with
      | some (.str file _) => ((P.main.file : Str) == file)
      | _ => false)
    | _ => false)
  | _ => false
def clB (K : PySem.W.Frag) (C : Addr) : List (Str × Addr) → Bool
  | [(n, cc)] => decide (n = "__class__") && (match K.lookup cc with
    | some ⟨_, _, .cell (some (.ref C')), _⟩ => decide (C' = C)
    | _ => false)
  | _ => false
def fdB (P : Program) (K : PySem.W.Frag) (i : XcI) : Bool := match K.lookup (xI K i) with
  | some ⟨_, _, .func fd, _⟩ => PySem.W.codeIn K fd.code (i.x ++ ".__init__") && (cdB P K fd.code && clB K (xC K i) fd.closure)
  | _ => false
def clsB (K : PySem.W.Frag) (C : Addr) : Bool := match K.lookup C with
  | some ⟨.type "type", _, .cls cd, sl⟩ => (match cd.mro, sl.toList with
    | .ref C' :: bm, [_, _, _, _, some (.builtin n), _] => decide (C' = C) && (decide (n = "ValueError.__new__") && (cd.hasDict && (!cd.hasDel && PySem.HandSPX.refsVE bm)))
    | _, _ => false)
  | _ => false
def xcB (P : Program) (K : PySem.W.Frag) (i : XcI) : Bool :=
  clsB K (xC K i) && (decide (PySem.W.findIn K (.ref (xC K i)) "__setattr__" = some (some (.builtin "object.__setattr__"))) && (decide (PySem.W.typeIn K (.ref (xC K i)) = some (.type "type")) && (PySem.W.keepIn K (.ref (xC K i)) && (xfB K (xC K i) &&
  (decide (PySem.W.findIn K (.ref (xC K i)) "__init__" = some (some (.ref (xI K i)))) && (decide (PySem.W.typeIn K (.ref (xI K i)) = some (.type "function")) && (fdB P K i && ((PySem.W.clsIn K (xC K i)).isSome && (decide (PySem.W.mroIn K (xC K i) (.ref (xC K i)) = some true) &&
  (decide (PySem.W.ks_superIn K (xC K i) (xC K i) "__init__" = some (some (.builtin "ValueError.__init__"))) && (decide (PySem.W.nsIn K cStatics "thirdparty.any" = some none) && (decide (PySem.W.subIn K (.ref (xC K i)) (.type "ValueError") = some true) &&
  (decide (PySem.W.findIn K (.ref (xC K i)) i.fld = some none) && decide (PySem.W.exmOne K (.ref (xC K i)) (.ref (xC K i)) = some true))))))))))))))

theorem bd {a b : Bool} (h : (a && b) = true) : a = true ∧ b = true := Bool.and_eq_true_iff.mp h
/-- what the text says of the class -/
structure InitS (P : Program) (i : XcI) : Prop where
  ar : ∃ ar, ((defArgs i.st).posonlyargs ++ (defArgs i.st).args).head? = some ar ∧ ar.arg = "self"
  sc : (defScope i.st).names.lookup ("super" : Str) = some .globalImplicit ∧ (defScope i.st).names.lookup ("__class__" : Str) = some .free ∧ (defScope i.st).names.lookup ("self" : Str) = some .local ∧ (defScope i.st).names.lookup i.fld = some .local ∧
      (defScope i.st).kind = .function ∧ (defScope i.st).isCoroutine = false ∧ (defScope i.st).isGenerator = false ∧ (∀ x ∈ (defScope i.st).names, x.2 ≠ .cell) ∧ (i.fld == ("__debug__" : Str)) = false ∧ i.fld ≠ "self"
  top : (P.main.scope.names.lookup ("super" : Str)).isSome = false
  body : ∃ p0 p1 p2 p3 p4 p5 p6 p7 p8 p9 : Pos, (p2.endLine == p4.line) = true ∧ defBody i.st = [.Expr (.Call (.Attribute (.Call (.Name "super" p0) [] [] p1) "__init__" p2) [.Name i.fld p3] [] p4) p5, .Assign [.Attribute (.Name "self" p6) i.fld p7] (.Name i.fld p8) p9]
  bnd : ∀ (q : Str) (kV doc pm : Value) (an : Option Addr) (cdv ct : Value) (cc : Addr) (us : List Value), us.length = 2 → bindArgs (PySem.W.ksFn "__init__" q (defArgs i.st) (defBody i.st) (defScope i.st) .none kV doc pm an cdv ct cc) ⟨us, []⟩ = pure ((["self", i.fld] : List Str).zip us)
  nd : (i.x == ("__debug__" : Str)) = false
theorem xc_ok {P : Program} {K : PySem.W.Frag} {i : XcI} (sh : InitS P i) (v : inObs K i = i.val) (b : xcB P K i = true) :
    (∃ fd, SupI P K (xC K i) (xI K i) i.fld fd ∧ Binds K fd ["self", i.fld] []) ∧ PySem.W.findIn K (.ref (xC K i)) "__init__" = some (some (.ref (xI K i))) ∧ PySem.W.typeIn K (.ref (xI K i)) = some (.type "function") ∧
      XfC K (xC K i) ∧ PySem.W.findIn K (.ref (xC K i)) i.fld = some none ∧ PySem.W.exmOne K (.ref (xC K i)) (.ref (xC K i)) = some true := by
  unfold xcB at b
  obtain ⟨b1, b⟩ := bd b
  obtain ⟨b2, b⟩ := bd b
  obtain ⟨b3, b⟩ := bd b
  obtain ⟨b4, b⟩ := bd b
  obtain ⟨b5, b⟩ := bd b
  obtain ⟨b6, b⟩ := bd b
  obtain ⟨b7, b⟩ := bd b
  obtain ⟨b8, b⟩ := bd b
  obtain ⟨b9, b⟩ := bd b
  obtain ⟨b10, b⟩ := bd b
  obtain ⟨b11, b⟩ := bd b
  obtain ⟨b12, b⟩ := bd b
  obtain ⟨b13, b⟩ := bd b
  obtain ⟨b14, b15⟩ := bd b
  have hX := xfB_ok b5
  have hC : ∃ nm q N bs bm sn sub ab col dd k0 k1 k2 k3 k5, K.lookup (xC K i) = some (excClassObj nm q (xC K i) N bs bm true sn sub ab col dd k0 k1 k2 k3 k5 "ValueError.__new__") ∧ PySem.HandSPX.refsVE bm = true := by
    unfold clsB at b1
    split at b1
    · rename_i dd cd sl hk
      split at b1
      · rename_i C' bm k0 k1 k2 k3 n k5 hm hs
        simp only [Bool.and_eq_true, decide_eq_true_eq, Bool.not_eq_true'] at b1
        obtain ⟨e1, e2, e3, e4, e5⟩ := b1
        subst e1 e2
        obtain ⟨c1, c2, c3, c4, c5, c6, c7, c8, c9, c10, c11⟩ := cd
        simp only at hm e3 e4
        subst hm e3 e4
        have : sl = #[k0, k1, k2, k3, some (.builtin "ValueError.__new__"), k5] := by
          rw [← Array.toArray_toList (xs := sl), hs]
        subst this
        exact ⟨_, _, _, _, _, _, _, _, _, _, _, _, _, _, _, hk, e5⟩
      · cases b1
    · cases b1
  refine ⟨?_, of_decide_eq_true b6, of_decide_eq_true b7, hX, of_decide_eq_true b14, of_decide_eq_true b15⟩
  have T : OexC K (xC K i) := ⟨hC, of_decide_eq_true b2, hX.exC, of_decide_eq_true b3, b4⟩
  unfold fdB at b8
  unfold inObs at v
  split at b8
  · rename_i oc od fd osl hk
    rw [hk] at v
    obtain ⟨n1, n2, n3, n4, n5, n6, n7, n8, n9, n10, n11, n12, n13, n14, n15⟩ := fd
    have v2 : (some (n1, n2, n3, n4, n5, n6, n8, n15) : InV) = i.val := v
    unfold XcI.val at v2
    simp only [Option.some.injEq, Prod.mk.injEq] at v2
    obtain ⟨h1, h2, h3, h4, h5, h6, h7, h8⟩ := v2
    subst h1 h2 h3 h4 h5 h6 h7 h8
    obtain ⟨c1, c23⟩ := bd b8
    obtain ⟨c2, c3⟩ := bd c23
    clear b8 c23
    dsimp only at c1 c2 c3
    unfold cdB at c2
    split at c2
    · rename_i cda
      split at c2
      · rename_i ccl cdd vs ccs hcode
        split at c2
        · rename_i file tf hvs
          unfold clB at c3
          split at c3
          · rename_i n cc
            obtain ⟨c4, c5⟩ := bd c3
            obtain rfl := of_decide_eq_true c4
            split at c5
            · rename_i cl cld C' csl hcell
              obtain rfl := of_decide_eq_true c5
              obtain ⟨cdD, hD⟩ := Option.isSome_iff_exists.mp b9
              obtain ⟨ar, ha1, ha2⟩ := sh.ar
              obtain ⟨p0, p1, p2, p3, p4, p5, p6, p7, p8, p9, hl, hb⟩ := sh.body
              exact ⟨_, ⟨T, ⟨_, _, _, _, _, _, _, _, _, _, _, _, _, _, cc, cda, ar, vs, file, tf, _, _, _, _, _, _, cdD, p0, p1, p2, p3, p4, p5, p6, p7, p8, p9, rfl, hk, c1, ha1, ha2, hcode, hvs, c2, hcell, hD, of_decide_eq_true b10, of_decide_eq_true b11, of_decide_eq_true b12, of_decide_eq_true b13, of_decide_eq_true b14,
                sh.top, sh.sc, hl, hb⟩⟩, .all fun us hu => sh.bnd _ _ _ _ _ _ _ _ us hu⟩
            · cases c5
          · cases c3
        · cases c2
      · cases c2
    · cases c2
  · cases b8
/-! ### constants -/
mutual
def vB (K : PySem.W.Frag) : Value → PyData → Bool
  | .none, .none => true
  | .bool b, .bool c => b == c
  | .int i _, .int j => decide (i = j)
  | .str x _, .str y => decide (x = y)
  | .ref a, .tuple ds => (match K.lookup a with
    | some ⟨.type c, _, .seq its _, _⟩ => decide (c = "tuple") && (decide (its.size ≤ sizeLine) && vBs K its.toList ds)
    | _ => false)
  | _, _ => false
def vBs (K : PySem.W.Frag) : List Value → List PyData → Bool
  | [], [] => true
  | u :: us, d :: ds => vB K u d && vBs K us ds
  | _, _ => false
end
mutual
theorem vB_ok {K : PySem.W.Frag} : ∀ (u : Value) (d : PyData), vB K u d = true → ∃ v, RelV v u ∧ ∀ Z, Dp K Z v d
  | u, .none, h => by
    cases u <;> first | exact ⟨.non, rfl, fun Z => .non⟩ | (unfold vB at h; cases h; done)
  | u, .bool c, h => by
    cases u with
    | bool b =>
      unfold vB at h
      obtain rfl := eq_of_beq h
      exact ⟨.bl b, rfl, fun Z => .bl _⟩
    | _ => unfold vB at h; cases h
  | u, .int j, h => by
    cases u with
    | int b t =>
      unfold vB at h
      obtain rfl := of_decide_eq_true h
      exact ⟨.int b, ⟨t, rfl⟩, fun Z => .int _⟩
    | _ => unfold vB at h; cases h
  | u, .str y, h => by
    cases u with
    | str b t =>
      unfold vB at h
      obtain rfl := of_decide_eq_true h
      exact ⟨.str b, ⟨t, rfl⟩, fun Z => .str _⟩
    | _ => unfold vB at h; cases h
  | u, .tuple ds, h => by
    cases u with
    | ref a =>
      unfold vB at h
      split at h
      · rename_i c dd its n sl hk
        obtain ⟨h1, h2⟩ := bd h
        obtain ⟨h3, h4⟩ := bd h2
        obtain rfl := of_decide_eq_true h1
        obtain ⟨vs, r, da⟩ := vBs_ok its.toList ds h4
        exact ⟨.ref a, rfl, fun Z => .tup (.inr ⟨_, its, n, hk, rfl, rfl, of_decide_eq_true h3, r⟩) (da Z)⟩
      · cases h
    | _ => unfold vB at h; cases h
  | u, .list ds, h => by cases u <;> (unfold vB at h; cases h)
  | u, .dict ds, h => by cases u <;> (unfold vB at h; cases h)
theorem vBs_ok {K : PySem.W.Frag} : ∀ (us : List Value) (ds : List PyData), vBs K us ds = true → ∃ vs, Vals vs us ∧ ∀ Z, DpAll K Z vs ds
  | [], [], _ => ⟨[], .nil, fun Z => .nil⟩
  | u :: us, d :: ds, h => by
    unfold vBs at h
    obtain ⟨h1, h2⟩ := bd h
    obtain ⟨v, r, q⟩ := vB_ok u d h1
    obtain ⟨vs, rs, qs⟩ := vBs_ok us ds h2
    exact ⟨v :: vs, .cons r rs, fun Z => .cons (q Z) (qs Z)⟩
  | [], _ :: _, h => by unfold vBs at h; cases h
  | _ :: _, [], h => by unfold vBs at h; cases h
end
/-- no tuple has a dict -/
def tkB (K : PySem.W.Frag) : Bool := K.all fun p => match p.2 with
  | ⟨.type c, some _, _, _⟩ => !decide (c = "tuple")
  | _ => true
theorem look_mem {K : PySem.W.Frag} {a : Addr} {o : Obj} (h : K.lookup a = some o) : ∃ b, (b, o) ∈ K := by
  induction K with
  | nil => cases h
  | cons p K ih =>
    obtain ⟨b, q⟩ := p
    rw [List.lookup_cons] at h
    split at h
    · cases h
      exact ⟨b, List.mem_cons_self⟩
    · obtain ⟨c, hc⟩ := ih h
      exact ⟨c, List.mem_cons_of_mem _ hc⟩
theorem tk_ok {K : PySem.W.Frag} (h : tkB K = true) : ∀ a o, K.lookup a = some o → o.cls = .type "tuple" → o.dict = none := fun a o e c => by
  obtain ⟨b, hm⟩ := look_mem e
  have := List.all_eq_true.mp h _ hm
  obtain ⟨cls, dd, dt, sl⟩ := o
  simp only at c
  subst c
  cases dd with
  | none => rfl
  | some q =>
    simp at this
/-- the constant x is d -/
def gB (K : PySem.W.Frag) (x : Str) (d : PyData) : Bool := match PySem.W.nsIn K mainGlobals x with
  | some (some u) => vB K u d
  | _ => false
theorem gB_ok {K : PySem.W.Frag} {h : Heap} {mg : Str → Option Value} (X : K.In h) (G : h.Ns mainGlobals mg) {x : Str} {d : PyData} (b : gB K x d = true) : ∃ v u, mg x = some u ∧ RelV v u ∧ ∀ Z, Dp K Z v d := by
  unfold gB at b
  split at b
  · rename_i u e
    obtain ⟨v, r, q⟩ := vB_ok u d b
    exact ⟨v, u, PySem.W.mg_of X G e, r, q⟩
  · cases b
end PL
namespace PL
open PySem PySem.Spec PyProof.Rows L2
/-- a def that asks (kind kd), its parameter, the exception's name, the handler's name -/
structure TlI where
  x : Str
  st : Stmt
  a : Str
  e : Str
  en : Str
/-- what the head looks at -/
structure HdI where
  P : Program
  G : Prg
  law : DefI
  tls : List TlI
  xs : List XcI
  tf : List (Str × Option Str)
def DefI.dd (d : DefI) : He.DefD := ⟨(d.x, none), d.x, d.x, defArgs d.st, defBody d.st, defScope d.st, [], []⟩
def TlI.dd (d : TlI) : He.DefD := ⟨(d.x, none), d.x, d.x, defArgs d.st, defBody d.st, defScope d.st, [], []⟩
def HdI.fn (I : HdI) : List He.DefD := I.law.dd :: (I.G.D.map DefI.dd ++ I.tls.map TlI.dd)
def HdI.fa (I : HdI) : List He.Fa := (("super" : Str) :: bltNames).map He.Fa.free ++ ((I.law.x :: (I.G.D.map (·.x) ++ (I.tls.map (·.x) ++ I.xs.map (·.x)))).map He.Fa.glo)
def HdI.K (I : HdI) (g : Addr → Option Obj) : PySem.W.Frag := He.frT g (He.asD g 5 ++ [cStatics])
/-- the tables stand apart -/
def tfB (K : PySem.W.Frag) (tf : List (Str × Option Str)) : Bool := decide ((tf.map fun p => (He.cT K p).2).Nodup)
def HdI.ex (I : HdI) (K : PySem.W.Frag) : Bool := I.xs.all (xcB I.P K) && (tkB K && (tfB K I.tf && (I.G.gnm.zip I.G.gl).all fun p => gB K p.1 p.2))
def HdI.T (I : HdI) (K : PySem.W.Frag) : Tb := I.tf.map fun p => ((He.cT K p).2, p.1 ++ ".<locals>." ++ "<lambda>")
abbrev AlP : Type := He.AlD × (List InV × Bool)
def HdI.obs (I : HdI) (g : Addr → Option Obj) : AlP := (He.obsD I.fa I.fn (I.K g), (I.xs.map (inObs (I.K g)), I.ex (I.K g) && He.tabsB g I.tf (I.K g)))
def HdI.val (I : HdI) : AlP := (He.valD I.fn, (I.xs.map XcI.val, true))
structure Says (I : HdI) (h : Heap) (K : PySem.W.Frag) : Prop where
  d : He.SaysD I.fa I.fn K
  xv : ∀ i ∈ I.xs, inObs K i = i.val
  ex : I.ex K = true
  hd : ∀ p ∈ I.tf, PySem.W.codeHdIn K (He.cT K p).1 (He.cT K p).2 = true
  out : ∀ p ∈ I.tf, K.lookup (He.cT K p).2 = none
  empty : ∀ p ∈ I.tf, h.get? (He.cT K p).2 = some { cls := .none, data := .fields #[] }
theorem says_of {I : HdI} {h : Heap} (e : I.obs h.get? = I.val) : Says I h (I.K h.get?) := by
  have e1 : He.obsD I.fa I.fn (I.K h.get?) = He.valD I.fn := congrArg (fun z : AlP => z.1) e
  have e2 : I.xs.map (inObs (I.K h.get?)) = I.xs.map XcI.val := congrArg (fun z : AlP => z.2.1) e
  have e3 : (I.ex (I.K h.get?) && He.tabsB h.get? I.tf (I.K h.get?)) = true := congrArg (fun z : AlP => z.2.2) e
  obtain ⟨h1, h2⟩ := bd e3
  have key : ∀ p ∈ I.tf, PySem.W.codeHdIn (I.K h.get?) (He.cT (I.K h.get?) p).1 (He.cT (I.K h.get?) p).2 = true ∧ ∃ o, h.get? (He.cT (I.K h.get?) p).2 = some o ∧ He.emptyTab o = true := fun p hp => by
    obtain ⟨h3, h4⟩ := bd (List.all_eq_true.mp h2 p hp)
    refine ⟨h3, ?_⟩
    split at h4
    · rename_i o q
      exact ⟨o, q, h4⟩
    · cases h4
  refine ⟨e1, fun i hi => ?_, h1, fun p hp => (key p hp).1, fun p hp => ?_, fun p hp => ?_⟩
  · exact List.map_inj_left.mp e2 i hi
  · obtain ⟨_, o, q, z⟩ := key p hp
    exact He.frT_none q z
  · obtain ⟨_, o, q, z⟩ := key p hp
    rw [q, He.emptyTab_eq z]
def HdI.hook (I : HdI) : PySem.W.Hook where
  α := AlP
  obs := fun s => I.obs s.heap.get?
  val := fun _ => I.val
  says := fun _ h => ∃ K : PySem.W.Frag, K.In h ∧ Says I h K
  of := fun _ _ e => ⟨_, He.frT_in, says_of e⟩
  keeps := fun _ _ _ ⟨K, hK, c⟩ k => ⟨K, PySem.W.Frag.In.keeps hK k, ⟨c.d, c.xv, c.ex, c.hd, c.out, fun p hp => k _ _ (c.empty p hp)⟩⟩
def HdI.ob (I : HdI) (s : PySem.W.SharedT) : AlP := I.obs (HandSHeadRun.getT s)
theorem HdI.ob_eq (I : HdI) (s : PySem.W.SharedT) : I.ob s = I.hook.obs s.abs := by
  have e : HandSHeadRun.getT s = s.abs.heap.get? := funext (HandSHeadRun.getT_eq s)
  show I.obs _ = I.obs _
  rw [e]
theorem says_def {I : HdI} {h : Heap} {K : PySem.W.Frag} (S : Says I h K) {d : He.DefD} (hd : d ∈ I.fn) : ∃ fd, FunD K d.name d.qual d.params d.body d.scope (d.dvs K) (d.kws K) (He.fAd K d.at_) fd := He.SaysD.defs S.d hd
theorem says_glo {I : HdI} {h : Heap} {K : PySem.W.Frag} {mg : Str → Option Value} (S : Says I h K) (X : K.In h) (G : h.Ns mainGlobals mg) {x : Str} (hx : x ∈ I.law.x :: (I.G.D.map (·.x) ++ (I.tls.map (·.x) ++ I.xs.map (·.x)))) : mg x = some (.ref (He.ga K x)) :=
  He.glo_ok X G (He.SaysD.facts S.d (List.mem_append_right _ (List.mem_map_of_mem hx)))
theorem says_free {I : HdI} {h : Heap} {K : PySem.W.Frag} {mg : Str → Option Value} (S : Says I h K) (X : K.In h) (G : h.Ns mainGlobals mg) {x : Str} (hx : x ∈ ("super" : Str) :: bltNames) : mg x = none :=
  He.free_ok X G (He.SaysD.facts S.d (List.mem_append_left _ (List.mem_map_of_mem hx)))
/-- what is said of the text alone -/
structure HdOk (I : HdI) : Prop where
  nd : ∀ d ∈ I.G.D, (d.x == ("__debug__" : Str)) = false
  ng : ∀ x ∈ I.G.gnm, (x == ("__debug__" : Str)) = false
  xs : ∀ i ∈ I.xs, InitS I.P i
  xn : I.G.xnm = I.xs.map (·.x)
  bnd : ∀ d ∈ I.law :: I.G.D, ∀ (kV doc pm : Value) (an : Option Addr) (cdv ct : Value) (us : List Value), us.length = d.ps.length → bindArgs (PySem.W.fnOf d.x d.x (defArgs d.st) (defBody d.st) (defScope d.st) .none kV doc pm an cdv ct) ⟨us, []⟩ = pure (d.ps.zip us)
  tbnd : ∀ d ∈ I.tls, ∀ (kV doc pm : Value) (an : Option Addr) (cdv ct : Value) (us : List Value), us.length = 1 → bindArgs (PySem.W.fnOf d.x d.x (defArgs d.st) (defBody d.st) (defScope d.st) .none kV doc pm an cdv ct) ⟨us, []⟩ = pure (([d.a] : List Str).zip us)
  kws : ∀ q ∈ I.G.kws, ∀ d, I.G.D[q.1]? = some d → (q.2.1.length = q.2.2.length) ∧ ∀ (kV doc pm : Value) (an : Option Addr) (cdv ct : Value) (ws : List Value), ws.length = q.2.1.length → bindArgs (PySem.W.fnOf d.x d.x (defArgs d.st) (defBody d.st) (defScope d.st) .none kV doc pm an cdv ct) ⟨[], q.2.1.zip ws⟩ = pure (d.ps.zip (q.2.2.map fun j => ws.getD j .none))
theorem funD_eq {K : PySem.W.Frag} {x q : Str} {params : Arguments} {body : List Stmt} {scope : Scope} {f : Addr} {fd : FuncData} (F : FunD K x q params body scope [] [] f fd) : ∃ oc od kV doc pm an cdv ct osl, fd = PySem.W.fnOf x q params body scope .none kV doc pm an cdv ct ∧ K.lookup f = some ⟨oc, od, .func fd, osl⟩ ∧ PySem.W.codeIn K cdv q = true := by
  obtain ⟨oc, od, dV, kV, doc, pm, an, cdv, ct, osl, h1, h2, h3, h4, h5⟩ := F.ex
  rcases h4 with ⟨_, rfl⟩ | ⟨h, _⟩
  · exact ⟨oc, od, kV, doc, pm, an, cdv, ct, osl, h1, h2, h3⟩
  · exact absurd rfl h
theorem vals_getD : ∀ {zs : List V} {ws : List Value}, Vals zs ws → ∀ j, RelV (zs.getD j .non) (ws.getD j .none)
  | _, _, .nil, j => by simp; rfl
  | _, _, .cons r h, 0 => r
  | _, _, .cons r h, j + 1 => by simpa using vals_getD h j
theorem vals_map {zs : List V} {ws : List Value} (h : Vals zs ws) : ∀ perm : List Nat, Vals (perm.map fun j => zs.getD j .non) (perm.map fun j => ws.getD j .none)
  | [] => .nil
  | j :: perm => .cons (vals_getD h j) (vals_map h perm)
section
variable {I : HdI} {h : Heap} {K : PySem.W.Frag} {mg : Str → Option Value}
def HdI.xc (I : HdI) (K : PySem.W.Frag) : List (Addr × Str) := I.xs.map fun i => (xC K i, i.fld)
theorem link_d (O : HdOk I) (S : Says I h K) (X : K.In h) (G : h.Ns mainGlobals mg) {f : Nat} {d : DefI} (hd : I.G.D[f]? = some d) : ∃ a fd, LinkD K mg I.G.kws f d a fd := by
  have hm := List.mem_of_getElem? hd
  obtain ⟨fd, F⟩ := says_def S (d := d.dd) (List.mem_cons_of_mem _ (List.mem_append_left _ (List.mem_map_of_mem hm)))
  have hg := says_glo S X G (x := d.x) (List.mem_cons_of_mem _ (List.mem_append_left _ (List.mem_map_of_mem hm)))
  obtain ⟨oc, od, kV, doc, pm, an, cdv, ct, osl, h1, h2, h3⟩ := funD_eq F
  subst h1
  refine ⟨He.ga K d.x, _, ⟨O.nd d hm, ⟨⟨oc, od, kV, doc, pm, an, cdv, ct, osl, rfl, h2, h3⟩, F.kp⟩, hg, F.kp, .all fun us hu => O.bnd d (List.mem_cons_of_mem _ hm) _ _ _ _ _ _ us hu, fun ks perm hk => ?_⟩⟩
  obtain ⟨hl, hb⟩ := O.kws _ hk d hd
  exact ⟨fun s us ws _ hu hw => by
    obtain rfl : us = [] := List.length_eq_zero_iff.mp hu
    exact .of_eq (hb _ _ _ _ _ _ ws hw), fun _ r => vals_map r perm⟩
theorem link (O : HdOk I) (S : Says I h K) (X : K.In h) (G : h.Ns mainGlobals mg) {T : Tb} {fuel n : Nat} : Link K mg I.P I.G (I.G.lk T (I.xc K) fuel n) := by
  obtain ⟨e1, e23⟩ := bd (show (I.xs.all (xcB I.P K) && (tkB K && (tfB K I.tf && (I.G.gnm.zip I.G.gl).all fun p => gB K p.1 p.2))) = true from S.ex)
  obtain ⟨e3, e24⟩ := bd e23
  obtain ⟨e4, e2⟩ := bd e24
  refine ⟨fun f d hd => link_d O S X G hd, ⟨says_free S X G List.mem_cons_self, fun c x hx => ?_⟩, ⟨fun x hx => says_free S X G (List.mem_cons_of_mem _ hx), fun j x d h1 h2 => ?_, tk_ok e3⟩⟩
  · rw [O.xn, List.getElem?_map] at hx
    cases hi : I.xs[c]? with
    | none => rw [hi] at hx; cases hx
    | some i =>
      rw [hi] at hx
      obtain rfl : i.x = x := Option.some.inj hx
      have hm := List.mem_of_getElem? hi
      obtain ⟨⟨fd, s1, s2⟩, s3, s4, s5, s6, s7⟩ := xc_ok (O.xs i hm) (S.xv i hm) (List.all_eq_true.mp e1 i hm)
      refine ⟨(O.xs i hm).nd, xC K i, xI K i, i.fld, fd, ?_, s1, s3, s4, s2, says_glo S X G (x := i.x) (List.mem_cons_of_mem _ (List.mem_append_right _ (List.mem_append_right _ (List.mem_map_of_mem hm))))⟩
      show (I.xc K)[c]? = _
      unfold HdI.xc
      rw [List.getElem?_map, hi]
      rfl
  · refine ⟨O.ng x (List.mem_of_getElem? h1), gB_ok X G ?_⟩
    have h1' : I.G.gnm[j]? = some x := h1
    have h2' : I.G.gl[j]? = some d := h2
    have hz : (I.G.gnm.zip I.G.gl)[j]? = some (x, d) := by
      rw [List.getElem?_zip_eq_some]
      exact ⟨h1', h2'⟩
    exact List.all_eq_true.mp e2 (x, d) (List.mem_of_getElem? hz)
/-- a told def, by its text -/
structure TlOk (I : HdI) (kd : Nat) (i : TlI) : Prop where
  mem : i ∈ I.tls
  nd : (i.x == ("__debug__" : Str)) = false
  sc : FnScope [i.a, i.en] [i.a] (defScope i.st)
  exc : ∃ q, I.xs[kd]? = some q ∧ q.x = i.e ∧ askB kd (defBody i.st) i.a i.e i.en q.fld
  l1 : (defScope i.st).names.lookup i.e = some .globalImplicit
  l2 : (defScope i.st).names.lookup i.en = some .local
  vis : Vis (defScope i.st) i.a
  d1 : (i.e == ("__debug__" : Str)) = false
  d2 : (i.en == ("__debug__" : Str)) = false
  d3 : (i.en == ("__classdict__" : Str)) = false
  d4 : (i.a == ("__debug__" : Str)) = false
  d5 : (i.a == ("__classdict__" : Str)) = false
  ne : i.a ≠ i.en
theorem tlp (O : HdOk I) (S : Says I h K) (X : K.In h) (G : h.Ns mainGlobals mg) {L : Lk} (hL : L.xc = I.xc K) {kd : Nat} {i : TlI} (t : TlOk I kd i) : TlP K mg L kd i.x := by
  obtain ⟨e1, e23⟩ := bd (show (I.xs.all (xcB I.P K) && (tkB K && (tfB K I.tf && (I.G.gnm.zip I.G.gl).all fun p => gB K p.1 p.2))) = true from S.ex)
  obtain ⟨e3, e24⟩ := bd e23
  obtain ⟨e4, e2⟩ := bd e24
  obtain ⟨fd, F⟩ := says_def S (d := i.dd) (List.mem_cons_of_mem _ (List.mem_append_right _ (List.mem_map_of_mem t.mem)))
  have hg := says_glo S X G (x := i.x) (List.mem_cons_of_mem _ (List.mem_append_right _ (List.mem_append_left _ (List.mem_map_of_mem t.mem))))
  obtain ⟨oc, od, kV, doc, pm, an, cdv, ct, osl, h1, h2, h3⟩ := funD_eq F
  subst h1
  obtain ⟨q, q1, q2, q3⟩ := t.exc
  have hm := List.mem_of_getElem? q1
  obtain ⟨⟨fd, s1, s2⟩, s3, s4, s5, s6, s7⟩ := xc_ok (O.xs q hm) (S.xv q hm) (List.all_eq_true.mp e1 q hm)
  have hq := says_glo S X G (x := q.x) (List.mem_cons_of_mem _ (List.mem_append_right _ (List.mem_append_right _ (List.mem_map_of_mem hm))))
  refine ⟨t.nd, _, xC K q, q.fld, i.a, i.e, i.en, _, _, _, _, _, _, _, _, _, _, _, _, _, hg, F.kp, h2, h3, .all fun us hu => O.tbnd i t.mem _ _ _ _ _ _ us hu, t.sc, ?_, q3, t.l1, t.l2, t.vis, by rw [← q2]; exact hq, t.d1, t.d2, t.d3, t.d4, t.d5, t.ne, s7, s5, s6⟩
  rw [hL]
  unfold HdI.xc
  rw [List.getElem?_map, q1]
  rfl
theorem nodup_map {α β : Type} {f : α → β} : ∀ {l : List α} {a b : α}, (l.map f).Nodup → a ∈ l → b ∈ l → f a = f b → a = b
  | [], _, _, _, h, _, _ => by cases h
  | x :: l, a, b, hn, ha, hb, e => by
    rw [List.map_cons, List.nodup_cons] at hn
    rcases List.mem_cons.mp ha with ea | ha2
    · rcases List.mem_cons.mp hb with eb | hb2
      · rw [ea, eb]
      · exact absurd (by rw [← ea, e]; exact List.mem_map_of_mem hb2) hn.1
    · rcases List.mem_cons.mp hb with eb | hb2
      · exact absurd (by rw [← eb, ← e]; exact List.mem_map_of_mem ha2) hn.1
      · exact nodup_map hn.2 ha2 hb2 e
theorem tab_uniq (S : Says I h K) {x : Str} (hx : (x, none) ∈ I.tf) : ∀ p ∈ I.T K, p.1 = (He.cT K (x, none)).2 → p.2 = x ++ ".<locals>." ++ "<lambda>" := fun p hp e => by
  obtain ⟨e1, e23⟩ := bd (show (I.xs.all (xcB I.P K) && (tkB K && (tfB K I.tf && (I.G.gnm.zip I.G.gl).all fun p => gB K p.1 p.2))) = true from S.ex)
  obtain ⟨e3, e24⟩ := bd e23
  obtain ⟨e4, e2⟩ := bd e24
  obtain ⟨q, hq, rfl⟩ := List.mem_map.mp hp
  have nd : (I.tf.map fun p => (He.cT K p).2).Nodup := of_decide_eq_true e4
  have := nodup_map nd hq hx e
  rw [this]
theorem law_at {w : World} {l : PySem.W.OpenLaw} {fuel n m : Nat} {x : Str} {fa : Addr} (O : HdOk I) (hP : l.prog = I.P) (hx : I.law.ps = [x]) (S : Says I h K) (X : K.In h) (G : h.Ns mainGlobals mg) (hfa : mg I.law.x = some (.ref fa)) (ch : I.G.chk (I.tls.map (·.x)) = true) (cl : chkD (I.G.nmT (I.tls.map (·.x))) I.G.xnm I.law = true)
    (tl : ∀ kd i, I.tls[kd]? = some i → TlOk I kd i) (htf : I.tf = (I.law.x, none) :: (I.G.D.filter (·.lam)).map fun d => (d.x, none))
    (run : ∀ ns : List Int, ns.length ≤ m → isTrue (I.G.run I.law fuel n ns) = true) : LamX.LawAtS l w K (L2.CX I.P w) (3 * n + 4) m x mg fa h := by
  obtain ⟨fd, F⟩ := says_def S (d := I.law.dd) List.mem_cons_self
  have hg := says_glo S X G (x := I.law.x) List.mem_cons_self
  have e := hfa.symm.trans hg
  cases e
  obtain ⟨oc, od, kV, doc, pm, an, cdv, ct, osl, h1, h2, h3⟩ := funD_eq F
  subst h1
  obtain ⟨cc, rfl⟩ := He.codeIn_ref h3
  have hin : ((I.law.x, none) : Str × Option Str) ∈ I.tf := by rw [htf]; exact List.mem_cons_self
  have hcT : (He.cT K (I.law.x, none)).1 = cc := He.codeOf_eq (p := (I.law.x, none)) h2 rfl
  have hlk := fun k => link O S X G (T := I.T K) (fuel := fuel) (n := k)
  refine ⟨PySem.W.fnOf I.law.x I.law.x (defArgs I.law.st) (defBody I.law.st) (defScope I.law.st) .none kV doc pm an (.ref cc) ct, I.tf.map (He.cT K), spF (I.G.lkL (I.T K) (I.xc K) fuel n I.law) K 0, fun p hp => ?_, fun p hp => ?_, fun p hp => ?_, fun s u => ?_, fun H a ns hl _ ht hs => ?_, fun base hK hb tb => ?_⟩
  · obtain ⟨q, hq, rfl⟩ := List.mem_map.mp hp; exact S.empty _ hq
  · obtain ⟨q, hq, rfl⟩ := List.mem_map.mp hp; exact S.out _ hq
  · obtain ⟨q, hq, rfl⟩ := List.mem_map.mp hp; exact PySem.W.codeHd_of_K X (S.hd _ hq)
  · have := O.bnd I.law List.mem_cons_self kV doc pm an (.ref cc) ct [u] (by rw [hx]; rfl)
    rw [hx] at this
    exact .of_eq this
  · refine spF_script (fun p hp => ?_) hs (run ns hl)
    obtain ⟨q, hq, rfl⟩ := List.mem_map.mp hp
    exact ⟨#[], ht _ (List.mem_map_of_mem hq), by simp [TriplesOk], fun pos cv hc => by simp [codeAmong] at hc⟩
  · rw [hP, ← hx]
    have memT : ∀ {y : Str}, (y, none) ∈ I.tf → ((He.cT K (y, none)).2, y ++ ".<locals>." ++ "<lambda>") ∈ I.T K := fun {y} hy => List.mem_map.mpr ⟨_, hy, rfl⟩
    refine law_ok (a := He.ga K I.law.x) (fd := _) (c := cc) (Pt := (He.cT K (I.law.x, none)).2) (tl := I.tls.map (·.x)) ch hlk cl ⟨⟨oc, od, kV, doc, pm, an, .ref cc, ct, osl, rfl, h2, h3⟩, F.kp⟩ (fun n kd y hy => ?_) (fun f d a fd hd hlam ln => ?_) ⟨by rw [← hcT]; exact tb _ (List.mem_map_of_mem hin), rfl, memT hin, tab_uniq S hin⟩
    · rw [List.getElem?_map] at hy
      cases hi : I.tls[kd]? with
      | none => rw [hi] at hy; cases hy
      | some i =>
        rw [hi] at hy
        obtain rfl : i.x = y := Option.some.inj hy
        exact tlp O S X G rfl (tl kd i hi)
    · have hd2 : ((d.x, none) : Str × Option Str) ∈ I.tf := by
        rw [htf]
        exact List.mem_cons_of_mem _ (List.mem_map.mpr ⟨d, List.mem_filter.mpr ⟨List.mem_of_getElem? hd, hlam⟩, rfl⟩)
      have hgd := says_glo S X G (x := d.x) (List.mem_cons_of_mem _ (List.mem_append_left _ (List.mem_map_of_mem (List.mem_of_getElem? hd))))
      have ea := ln.mg.symm.trans hgd
      cases ea
      obtain ⟨oc', od', kV', doc', pm', an', cdv', ct', osl', rfl, g2, g3⟩ := ln.fn.ex
      obtain ⟨cd, rfl⟩ := He.codeIn_ref g3
      have hcd : (He.cT K (d.x, none)).1 = cd := He.codeOf_eq (p := (d.x, none)) g2 rfl
      exact ⟨cd, _, by rw [← hcd]; exact tb _ (List.mem_map_of_mem hd2), rfl, memT hd2, tab_uniq S hd2⟩
end
end PL

/-! part PLStd -/
set_option maxRecDepth 100000
set_option linter.all false
set_option autoImplicit false
/-! the bodies of the defs that several laws share -/
namespace Std
open PL PySem
def b_demand : Ss := (.cons (.ifS (.notE (.var 0)) (.cons (.raiseS 0 (.var 1))
  .nil) .nil)
  .nil)
def fd_demand : Fd := ⟨2, 2, b_demand⟩
abbrev i_demand : Nat := 0
def b_is_in : Ss := (.cons (.ret (.andE (.op1 (.inst .int) (.b 0)) (.andE (.notE (.op1 (.inst .bool) (.b 0))) (.chain .le .le (.var 1) (.var 0) (.var 2)))))
  .nil)
def fd_is_in : Fd := ⟨3, 3, b_is_in⟩
abbrev i_is_in : Nat := 1
def b_is_tuple : Ss := (.cons (.ret (.andE (.op1 (.inst .tuple) (.b 0)) (.chain .le .le (.var 1) (.op1 .len (.b 0)) (.var 2))))
  .nil)
def fd_is_tuple : Fd := ⟨3, 3, b_is_tuple⟩
abbrev i_is_tuple : Nat := 2
def b_are_in : Ss := (.cons (.ret (.andE (.call 2 (.cons (.var 0) (.cons (.var 1) (.cons (.var 2) .nil)))) (.op1 .all (.e (.comp [5] (.nm 5) (.seq (.b 0)) false .none (.call 1 (.cons (.var 5) (.cons (.var 3) (.cons (.var 4) .nil)))))))))
  .nil)
def fd_are_in : Fd := ⟨5, 6, b_are_in⟩
abbrev i_are_in : Nat := 3
def b_are_rising : Ss := (.cons (.ret (.andE (.call 3 (.cons (.var 0) (.cons (.var 1) (.cons (.var 2) (.cons (.int 0) (.cons (.var 3) .nil)))))) (.op1 .all (.e (.comp [4, 5] (.two (.nm 4) (.nm 5)) (.zip (.b 0) (.e (.sl (.b 0) (.so (.int 1)) .no))) false .none (.op2 .lt (.b 4) (.b 5)))))))
  .nil)
def fd_are_rising : Fd := ⟨4, 6, b_are_rising⟩
abbrev i_are_rising : Nat := 4
def b_is_order : Ss := (.cons (.ret (.andE (.call 3 (.cons (.var 0) (.cons (.var 1) (.cons (.var 1) (.cons (.int 0) (.cons (.op2 .sub (.b 1) (.e (.int 1))) .nil)))))) (.op2 .eq (.e (.lenSet (.b 0))) (.b 1))))
  .nil)
def fd_is_order : Fd := ⟨2, 2, b_is_order⟩
abbrev i_is_order : Nat := 5
def b_lowest : Ss := (.cons (.setT [(false, 2), (false, 3)] (.cons (.op1 .abs (.b 0)) (.cons (.var 1) .nil)))
  (.cons (.whileS (.op2 .ne (.b 3) (.e (.int 0))) (.cons (.setT [(false, 2), (false, 3)] (.cons (.var 3) (.cons (.op2 .mod (.b 2) (.b 3)) .nil)))
  .nil) [])
  (.cons (.ret (.tup (.cons (.op2 .fdiv (.b 0) (.b 2)) (.cons (.op2 .fdiv (.b 1) (.b 2)) .nil))))
  .nil)))
def fd_lowest : Fd := ⟨2, 4, b_lowest⟩
abbrev i_lowest : Nat := 6
def b__law_dice : Ss := (.cons (.set false 2 (.ifE (.op2 .lt (.b 1) (.e (.op1 .len (.b 0)))) (.op2 .ix (.b 0) (.b 1)) (.op2 .add (.e (.op2 .mul (.e (.int 811)) (.b 1))) (.e (.int 37)))))
  (.cons (.set false 3 (.op2 .add (.e (.int 700001)) (.e (.op2 .mul (.e (.int 6947)) (.b 1)))))
  (.cons (.forS (.nm 4) (.seq (.e (.op2 .add (.e (.sl (.b 0) .no (.so (.int 6)))) (.e (.lst (.cons (.var 2) .nil)))))) (.cons (.set false 3 (.op2 .mod (.e (.op1 .int1 (.e (.op2 .add (.e (.op2 .mul (.b 3) (.e (.int 69621)))) (.e (.op2 .mod (.e (.op1 .int1 (.b 4))) (.e (.int 2147480009)))))))) (.e (.int 2147480009))))
  .nil) [4])
  (.cons (.ret (.lst (.cons (.ifE (.orE (.op2 .lt (.b 2) (.e (.int 0))) (.op2 .ge (.b 2) (.e (.op2 .pow (.e (.int 10)) (.e (.int 16)))))) (.op1 .abs (.b 2)) (.int 0)) (.cons (.var 3) (.cons (.int 0) .nil)))))
  .nil))))
def fd__law_dice : Fd := ⟨2, 5, b__law_dice⟩
abbrev i__law_dice : Nat := 7
def b__law_roll : Ss := (.cons (.ifS (.op2 .gt (.e (.op2 .ix (.b 0) (.e (.int 0)))) (.e (.int 0))) (.cons (.set false 2 (.op2 .mod (.e (.op1 .int1 (.e (.op2 .ix (.b 0) (.e (.int 0)))))) (.b 1)))
  (.cons (.setI 0 (.int 0) (.op2 .fdiv (.e (.op2 .ix (.b 0) (.e (.int 0)))) (.b 1)))
  (.cons (.ret (.var 2))
  .nil))) .nil)
  (.cons (.setI 0 (.int 2) (.op2 .add (.e (.op2 .ix (.b 0) (.e (.int 2)))) (.e (.int 1))))
  (.cons (.setI 0 (.int 1) (.op2 .mod (.e (.op1 .int1 (.e (.op2 .add (.e (.op2 .add (.e (.op2 .mul (.e (.op2 .ix (.b 0) (.e (.int 1)))) (.e (.int 48271)))) (.e (.op2 .mul (.e (.op2 .mul (.e (.op2 .ix (.b 0) (.e (.int 2)))) (.e (.op2 .ix (.b 0) (.e (.int 2)))))) (.e (.int 2003)))))) (.e (.int 91)))))) (.e (.int 2147480009))))
  (.cons (.ret (.op2 .mod (.e (.op1 .int1 (.e (.op2 .fdiv (.e (.op2 .ix (.b 0) (.e (.int 1)))) (.e (.int 197)))))) (.b 1)))
  .nil))))
def fd__law_roll : Fd := ⟨2, 3, b__law_roll⟩
abbrev i__law_roll : Nat := 8
def b__law_pick : Ss := (.cons (.ret (.op2 .ix (.b 1) (.e (.callIo 8 0 (.cons (.op1 .len (.b 1)) .nil)))))
  .nil)
def fd__law_pick : Fd := ⟨2, 2, b__law_pick⟩
abbrev i__law_pick : Nat := 9
def b__law_order : Ss := (.cons (.setT [(true, 3), (false, 4)] (.cons (.listR (.r1 (.var 1))) (.cons (.tup .nil) .nil)))
  (.cons (.forS (.nm 2) (.r1 (.var 1)) (.cons (.set false 4 (.op2 .add (.b 4) (.e (.tup (.cons (.pop 3 (.callIo 8 0 (.cons (.op1 .len (.b 3)) .nil))) .nil)))))
  .nil) [2])
  (.cons (.ret (.var 4))
  .nil)))
def fd__law_order : Fd := ⟨2, 5, b__law_order⟩
abbrev i__law_order : Nat := 10
def b__law_choices : Ss := (.cons (.set false 1 (.lst (.cons (.tup .nil) .nil)))
  (.cons (.forS (.nm 2) (.r1 (.var 0)) (.cons (.set false 1 (.op2 .add (.b 1) (.e (.comp [3] (.nm 3) (.seq (.b 1)) false .none (.op2 .add (.b 3) (.e (.tup (.cons (.var 2) .nil))))))))
  .nil) [2])
  (.cons (.ret (.var 1))
  .nil)))
def fd__law_choices : Fd := ⟨1, 4, b__law_choices⟩
abbrev i__law_choices : Nat := 11
def b__law_orders : Ss := (.cons (.set false 1 (.lst (.cons (.tup .nil) .nil)))
  (.cons (.forS (.nm 2) (.r1 (.var 0)) (.cons (.set false 3 (.lst .nil))
  (.cons (.forS (.nm 4) (.seq (.e (.var 1))) (.cons (.set false 3 (.op2 .add (.b 3) (.e (.comp [5] (.nm 5) (.r1 (.var 0)) true (.op2 .nin (.b 5) (.b 4)) (.op2 .add (.b 4) (.e (.tup (.cons (.var 5) .nil))))))))
  .nil) [4])
  (.cons (.set false 1 (.var 3))
  .nil))) [2, 3, 4])
  (.cons (.ret (.var 1))
  .nil)))
def fd__law_orders : Fd := ⟨1, 6, b__law_orders⟩
abbrev i__law_orders : Nat := 12
def b__law_orders2 : Ss := (.cons (.set false 1 (.lst (.cons (.tup .nil) .nil)))
  (.cons (.forS (.nm 2) (.seq (.e (.var 0))) (.cons (.set false 3 (.lst .nil))
  (.cons (.forS (.nm 4) (.seq (.e (.var 1))) (.cons (.set false 3 (.op2 .add (.b 3) (.e (.comp [5] (.nm 5) (.seq (.b 0)) true (.op2 .nin (.b 5) (.b 4)) (.op2 .add (.b 4) (.e (.tup (.cons (.var 5) .nil))))))))
  .nil) [4])
  (.cons (.set false 1 (.var 3))
  .nil))) [2, 3, 4])
  (.cons (.ret (.var 1))
  .nil)))
def fd__law_orders2 : Fd := ⟨1, 6, b__law_orders2⟩
abbrev i__law_orders2 : Nat := 13
def b__law_same : Ss := (.cons (.setT [(false, 4), (false, 5)] (.cons (.op1 .abs (.e (.op2 .ix (.b 0) (.e (.int 0))))) (.cons (.op2 .ix (.b 0) (.e (.int 1))) .nil)))
  (.cons (.forS (.nm 3) (.r1 (.int 4000)) (.cons (.ifS (.op2 .eq (.b 5) (.e (.int 0))) (.cons .brk
  .nil) .nil)
  (.cons (.setT [(false, 4), (false, 5)] (.cons (.var 5) (.cons (.op2 .mod (.e (.op1 .int1 (.b 4))) (.b 5)) .nil)))
  .nil)) [3])
  (.cons (.ret (.andE (.op2 .gt (.e (.op2 .ix (.b 0) (.e (.int 1)))) (.e (.int 0))) (.andE (.op2 .eq (.b 4) (.e (.int 1))) (.op2 .eq (.e (.op2 .mul (.e (.op2 .ix (.b 0) (.e (.int 0)))) (.b 2))) (.e (.op2 .mul (.b 1) (.e (.op2 .ix (.b 0) (.e (.int 1))))))))))
  .nil)))
def fd__law_same : Fd := ⟨3, 6, b__law_same⟩
abbrev i__law_same : Nat := 14
/-
demand: 0 is_good, 1 name
is_in: 0 value, 1 low, 2 high
is_tuple: 0 value, 1 least, 2 most
are_in: 0 value, 1 least, 2 most, 3 low, 4 high, 5 one
are_rising: 0 value, 1 least, 2 most, 3 high, 4 one, 5 two
is_order: 0 value, 1 many
lowest: 0 part, 1 whole, 2 one, 3 other
_law_dice: 0 script, 1 spot, 2 own, 3 mixed, 4 cell
_law_roll: 0 dice, 1 total, 2 found
_law_pick: 0 dice, 1 things
_law_order: 0 dice, 1 many, 2 turn, 3 left, 4 found
_law_choices: 0 many, 1 found, 2 number, 3 own
_law_orders: 0 many, 1 found, 2 turn, 3 longer, 4 own, 5 one
_law_orders2: 0 things, 1 found, 2 turn, 3 longer, 4 own, 5 one
_law_same: 0 told, 1 part, 2 whole, 3 turn, 4 one, 5 other
-/
end Std

/-! part PLSim -/
set_option Elab.async false
set_option linter.all false
set_option autoImplicit false
set_option maxRecDepth 100000
set_option maxHeartbeats 4000000
/-! the evaluator by rewriting; what follows a part is a named function, so that nothing is rewritten ahead of its time -/
namespace PL
open PySem
/-! ### outcomes -/
section
variable {α β : Type}
theorem ob_ok (a : α) (e : En) (f : α → En → Out β) : (Out.ok a e).bind f = f a e := rfl
theorem ob_exc (c : Nat) (s : Str) (e : En) (f : α → En → Out β) : (Out.exc c s e : Out α).bind f = .exc c s e := rfl
theorem ob_bad (f : α → En → Out β) : (Out.bad : Out α).bind f = .bad := rfl
theorem ob_ite (c : Prop) [Decidable c] (x y : Out α) (f : α → En → Out β) : (if c then x else y).bind f = if c then x.bind f else y.bind f := by split <;> rfl
@[simp] theorem ol_some (a : α) (e : En) : Out.lift (some a) e = .ok a e := rfl
@[simp] theorem ol_none (e : En) : (Out.lift none e : Out α) = .bad := rfl
@[simp] theorem ol_ite (c : Prop) [Decidable c] (x y : Option α) (e : En) : Out.lift (if c then x else y) e = if c then Out.lift x e else Out.lift y e := by split <;> rfl
theorem so_ok (a : α) (e : En) (f : α → En → SOut) : SOut.of (.ok a e) f = f a e := rfl
theorem so_exc (c : Nat) (s : Str) (e : En) (f : α → En → SOut) : SOut.of (.exc c s e) f = .exc c s e := rfl
theorem so_bad (f : α → En → SOut) : SOut.of .bad f = .bad := rfl
theorem so_ite (c : Prop) [Decidable c] (x y : Out α) (f : α → En → SOut) : SOut.of (if c then x else y) f = if c then SOut.of x f else SOut.of y f := by split <;> rfl
theorem sq_nx (e : En) (f : En → SOut) : (SOut.nx e).seq f = f e := rfl
theorem sq_ret (r : RV) (e : En) (f : En → SOut) : (SOut.ret r e).seq f = .ret r e := rfl
theorem sq_brk (e : En) (f : En → SOut) : (SOut.brk e).seq f = .brk e := rfl
theorem sq_exc (c : Nat) (s : Str) (e : En) (f : En → SOut) : (SOut.exc c s e).seq f = .exc c s e := rfl
theorem sq_bad (f : En → SOut) : SOut.bad.seq f = .bad := rfl
theorem sq_ite (c : Prop) [Decidable c] (x y : SOut) (f : En → SOut) : (if c then x else y).seq f = if c then x.seq f else y.seq f := by split <;> rfl
@[simp] theorem sp_some (e : En) : SOut.opt (some e) = .nx e := rfl
@[simp] theorem sp_none : SOut.opt none = .bad := rfl
end
/-- the end of a def -/
def fin (args : List Slot) : SOut → FOut
  | .nx env => .ok (.v .none) (retA args env)
  | .ret r env => .ok r (retA args env)
  | .exc c s env => .exc c s
  | _ => .bad
@[simp] theorem fin_nx (args : List Slot) (e : En) : fin args (.nx e) = .ok (.v .none) (retA args e) := rfl
@[simp] theorem fin_ret (args : List Slot) (r : RV) (e : En) : fin args (.ret r e) = .ok r (retA args e) := rfl
@[simp] theorem fin_exc (args : List Slot) (c : Nat) (s : Str) (e : En) : fin args (.exc c s e) = .exc c s := rfl
@[simp] theorem fin_ite (args : List Slot) (c : Prop) [Decidable c] (x y : SOut) : fin args (if c then x else y) = if c then fin args x else fin args y := by split <;> rfl
theorem runF_eq {ft : FT} {gl : List PyData} {fuel : Nat} {fd : Fd} {args : List Slot} (h : (decide (args.length = fd.ar) && (decide (fd.ar ≤ fd.slots) && okArgs args)) = true) :
    runF ft gl fuel fd args = fin args (exSs ft gl fuel fd.body (args ++ List.replicate (fd.slots - fd.ar) .non)) := by
  unfold runF
  simp only [Bool.and_eq_true, decide_eq_true_eq] at h
  rw [if_pos h]
  cases exSs ft gl fuel fd.body (args ++ List.replicate (fd.slots - fd.ar) .non) <;> rfl
theorem callF_eq {P : List Fd} {gl : List PyData} {fuel n f : Nat} {fd : Fd} {args : List Slot} (hf : P[f]? = some fd) (h : (decide (args.length = fd.ar) && (decide (fd.ar ≤ fd.slots) && okArgs args)) = true) :
    callF P gl fuel (n + 1) f args = fin args (exSs (callF P gl fuel n) gl fuel fd.body (args ++ List.replicate (fd.slots - fd.ar) .non)) := by
  simp only [callF]
  rw [hf]
  exact runF_eq h
/-! ### slots -/
@[simp] theorem gt_z (s : Slot) (e : En) : En.gt (s :: e) 0 = s := rfl
@[simp] theorem gt_s (s : Slot) (e : En) (i : Nat) : En.gt (s :: e) (i + 1) = En.gt e i := rfl
@[simp] def rB : Slot → Option PyData
  | .val d => some d
  | .own xs => some (.list xs)
  | .io xs => some (.list xs)
  | .lk xs => some (.list xs)
  | .non => none
theorem rdB_eq (i : Nat) (e : En) : rdB i e = rB (e.gt i) := by
  unfold rdB rB
  cases e.gt i <;> rfl
@[simp] def rV (i : Nat) (env : En) : Slot → Out RV
  | .val d => .ok (.v d) env
  | .own xs => .ok (.v (.list xs)) (env.set i (.val (.list xs)))
  | _ => .bad
theorem rdV_eq (i : Nat) (e : En) : rdV i e = rV i e (e.gt i) := by
  unfold rdV rV
  cases e.gt i <;> rfl
@[simp] def rM : Slot → Option (List PyData)
  | .own xs => some xs
  | .io xs => some xs
  | _ => none
theorem rdM_eq (i : Nat) (e : En) : rdM i e = rM (e.gt i) := by
  unfold rdM rM
  cases e.gt i <;> rfl
@[simp] def frS : Slot → Bool
  | .io _ => false
  | .lk _ => false
  | _ => true
@[simp] theorem free_eq (i : Nat) (e : En) : free i e = (frS (e.gt i) && decide (i < e.length)) := by
  unfold free frS
  cases e.gt i <;> simp
@[simp] theorem lockE_nil (e : En) : lockE e [] = e := rfl
@[simp] def lkS (i : Nat) (r : En) : Slot → En
  | .own xs => r.set i (.lk xs)
  | _ => r
@[simp] theorem lockE_cons (e : En) (i : Nat) (is : List Nat) : lockE e (i :: is) = lkS i (lockE e is) (e.gt i) := by
  unfold lkS
  rw [lockE]
  all_goals (cases e.gt i <;> rfl)
@[simp] def fgS (i : Nat) (r : En) : Slot → En
  | .io _ => r
  | .lk _ => r
  | _ => r.set i .non
@[simp] theorem forgE_cons (e : En) (i : Nat) (is : List Nat) : forgE e (i :: is) = fgS i (forgE e is) (e.gt i) := by
  unfold fgS
  rw [forgE]
  all_goals (cases e.gt i <;> rfl)
@[simp] def wkS : Slot → Bool
  | .io _ => false
  | _ => true
@[simp] theorem walkable_eq (own : List Nat) (e : En) (ls : List Nat) : walkable own e ls = ls.all fun i => !own.contains i && wkS (e.gt i) := by
  unfold walkable wkS
  rfl
/-- both truth values -/
def onB (d : PyData) (x y : Out RV) : Out RV := match d with
  | .bool true => x
  | .bool false => y
  | _ => .bad
@[simp] theorem onB_t (x y : Out RV) : onB (.bool true) x y = x := rfl
@[simp] theorem onB_f (x y : Out RV) : onB (.bool false) x y = y := rfl
@[simp] theorem onB_and (b c : Bool) (e : En) : onB (.bool b) (.ok (.v (.bool c)) e) (.ok (.v (.bool false)) e) = .ok (.v (.bool (b && c))) e := by cases b <;> rfl
@[simp] theorem onB_or (b c : Bool) (e : En) : onB (.bool b) (.ok (.v (.bool true)) e) (.ok (.v (.bool c)) e) = .ok (.v (.bool (b || c))) e := by cases b <;> rfl
theorem onB_ite (b : Bool) (x y : Out RV) : onB (.bool b) x y = if b = true then x else y := by cases b <;> rfl
@[simp] def permD (perm : List Nat) (ds : List PyData) : Option (List PyData) := if ds.length = perm.length then perm.mapM fun j => ds[j]? else none
section
variable (ft : FT) (gl : List PyData) (fuel : Nat)
/-- a comprehension's walk -/
def compE (own : List Nat) (p : Pat) (hc : Bool) (c e : E) (xs : List PyData) (en : En) : Out (List PyData) := compLoop own (bindP p) (fun en => if hc = true then tst (evE ft gl c en) else .ok true en) (fun en => evE ft gl e en) xs en
/-- a loop -/
def forE (p : Pat) (w : List Nat) (body : Ss) (xs : List PyData) (en : En) : SOut := forLoop (bindP p) w (fun en => exSs ft gl fuel body en) xs en
def fgO (w : List Nat) : SOut → SOut
  | .nx e => .nx (forgE e w)
  | .brk e => .brk (forgE e w)
  | o => o
def whileE (w : List Nat) (c : E) (body : Ss) (k : Nat) (en : En) : SOut := whileLoop w (fun en => tst (evE ft gl c en)) (fun en => exSs ft gl fuel body en) k en
end
@[simp] def popS (i : Nat) (d : PyData) (e1 : En) : Out RV := match d, rdM i e1 with
    | .int k, some xs => match L2.ixN xs.length k with
      | some j => match xs[j]? with
        | some d => if smallI k then .ok (.v d) (wrM i (xs.eraseIdx j) e1) else .bad
        | Option.none => .bad
      | Option.none => .bad
    | _, _ => .bad
def fo (env : En) : FOut → Out RV
  | .ok r _ => .ok r env
  | .exc c s => .exc c s env
  | .bad => .bad
def fi (i : Nat) (env : En) : FOut → Out RV
  | .ok r (.io ys :: _) => .ok r (wrM i ys env)
  | _ => .bad
@[simp] def retVS (i : Nat) (env : En) : Slot → SOut
  | .own xs => .ret (.l xs) (env.set i .non)
  | .val d => .ret (.v d) env
  | _ => .bad
@[simp] def setIS (i : Nat) (d k : PyData) (e2 : En) : SOut := match k, rdM i e2 with
    | .int k, some xs => match L2.ixN xs.length k with
      | some j => .nx (wrM i (xs.set j d) e2)
      | none => .bad
    | _, _ => .bad
@[simp] def augS (i : Nat) (x : Slot) (d : PyData) (e1 : En) : SOut := match x, d with
  | .val (.int a), .int b => .opt (stV i (.int (a + b)) e1)
  | _, _ => .bad
@[simp] def isV : Slot → Bool
  | .val _ => true
  | _ => false
@[simp] theorem fo_ok (env : En) (r : RV) (a : List Slot) : fo env (.ok r a) = .ok r env := rfl
@[simp] theorem fo_exc (env : En) (c : Nat) (s : Str) : fo env (.exc c s) = .exc c s env := rfl
@[simp] theorem fo_ite (env : En) (c : Prop) [Decidable c] (x y : FOut) : fo env (if c then x else y) = if c then fo env x else fo env y := by split <;> rfl
@[simp] theorem fi_ok (env : En) (i : Nat) (r : RV) (ys : List PyData) (a : List Slot) : fi i env (.ok r (.io ys :: a)) = .ok r (wrM i ys env) := rfl
@[simp] theorem fg_nx (w : List Nat) (e : En) : fgO w (.nx e) = .nx (forgE e w) := rfl
@[simp] theorem fg_brk (w : List Nat) (e : En) : fgO w (.brk e) = .brk (forgE e w) := rfl
@[simp] theorem fg_ret (w : List Nat) (r : RV) (e : En) : fgO w (.ret r e) = .ret r e := rfl
@[simp] theorem fg_exc (w : List Nat) (c : Nat) (s : Str) (e : En) : fgO w (.exc c s e) = .exc c s e := rfl
@[simp] theorem fg_ite (w : List Nat) (c : Prop) [Decidable c] (x y : SOut) : fgO w (if c then x else y) = if c then fgO w x else fgO w y := by split <;> rfl
@[simp] theorem ce_ok (own ls : List Nat) (env : En) (ds : List PyData) (en : En) : compEnd own ls env (.ok ds en) = if szOk ds.length = true then .ok (.l ds) (backE env en (own ++ ls)) else .bad := rfl
def o1K (o : Op1) : Out RV → Out RV
  | .ok r e => .lift (sem1 o r.d) e
  | .exc c s e => .exc c s e
  | .bad => .bad
@[simp] theorem o1K_ok (o : Op1) (r : RV) (e : En) : o1K o (.ok r e) = .lift (sem1 o r.d) e := rfl
@[simp] theorem o1K_exc (o : Op1) (c__ : Nat) (s__ : Str) (e__ : En) : o1K o (.exc c__ s__ e__) = .exc c__ s__ e__ := rfl
@[simp] theorem o1K_ite (o : Op1) (c__ : Prop) [Decidable c__] (x__ y__ : Out RV) : o1K o (if c__ then x__ else y__) = if c__ then o1K o x__ else o1K o y__ := by split <;> rfl
def o2B (o : Op2) (r0 : RV) : Out RV → Out RV
  | .ok s e => .lift (sem2 o r0.d s.d) e
  | .exc c s e => .exc c s e
  | .bad => .bad
@[simp] theorem o2B_ok (o : Op2) (r0 : RV) (s : RV) (e : En) : o2B o r0 (.ok s e) = .lift (sem2 o r0.d s.d) e := rfl
@[simp] theorem o2B_exc (o : Op2) (r0 : RV) (c__ : Nat) (s__ : Str) (e__ : En) : o2B o r0 (.exc c__ s__ e__) = .exc c__ s__ e__ := rfl
@[simp] theorem o2B_ite (o : Op2) (r0 : RV) (c__ : Prop) [Decidable c__] (x__ y__ : Out RV) : o2B o r0 (if c__ then x__ else y__) = if c__ then o2B o r0 x__ else o2B o r0 y__ := by split <;> rfl
def o2A (ft : FT) (gl : List PyData) (o : Op2) (y : E) : Out RV → Out RV
  | .ok r e => o2B o r (evE ft gl y e)
  | .exc c s e => .exc c s e
  | .bad => .bad
@[simp] theorem o2A_ok (ft : FT) (gl : List PyData) (o : Op2) (y : E) (r : RV) (e : En) : o2A ft gl o y (.ok r e) = o2B o r (evE ft gl y e) := rfl
@[simp] theorem o2A_exc (ft : FT) (gl : List PyData) (o : Op2) (y : E) (c__ : Nat) (s__ : Str) (e__ : En) : o2A ft gl o y (.exc c__ s__ e__) = .exc c__ s__ e__ := rfl
@[simp] theorem o2A_ite (ft : FT) (gl : List PyData) (o : Op2) (y : E) (c__ : Prop) [Decidable c__] (x__ y__ : Out RV) : o2A ft gl o y (if c__ then x__ else y__) = if c__ then o2A ft gl o y x__ else o2A ft gl o y y__ := by split <;> rfl
def o2C (o : Op2) (i : Nat) : Out RV → Out RV
  | .ok s e => .lift ((rdB i e).bind fun u => sem2 o u s.d) e
  | .exc c s e => .exc c s e
  | .bad => .bad
@[simp] theorem o2C_ok (o : Op2) (i : Nat) (s : RV) (e : En) : o2C o i (.ok s e) = .lift ((rdB i e).bind fun u => sem2 o u s.d) e := rfl
@[simp] theorem o2C_exc (o : Op2) (i : Nat) (c__ : Nat) (s__ : Str) (e__ : En) : o2C o i (.exc c__ s__ e__) = .exc c__ s__ e__ := rfl
@[simp] theorem o2C_ite (o : Op2) (i : Nat) (c__ : Prop) [Decidable c__] (x__ y__ : Out RV) : o2C o i (if c__ then x__ else y__) = if c__ then o2C o i x__ else o2C o i y__ := by split <;> rfl
def o2D (o : Op2) (j : Nat) : Out RV → Out RV
  | .ok r e => .lift ((rdB j e).bind fun v => sem2 o r.d v) e
  | .exc c s e => .exc c s e
  | .bad => .bad
@[simp] theorem o2D_ok (o : Op2) (j : Nat) (r : RV) (e : En) : o2D o j (.ok r e) = .lift ((rdB j e).bind fun v => sem2 o r.d v) e := rfl
@[simp] theorem o2D_exc (o : Op2) (j : Nat) (c__ : Nat) (s__ : Str) (e__ : En) : o2D o j (.exc c__ s__ e__) = .exc c__ s__ e__ := rfl
@[simp] theorem o2D_ite (o : Op2) (j : Nat) (c__ : Prop) [Decidable c__] (x__ y__ : Out RV) : o2D o j (if c__ then x__ else y__) = if c__ then o2D o j x__ else o2D o j y__ := by split <;> rfl
def chC (ft : FT) (gl : List PyData) (o2 : Op2) (y : RV) (c : E) (e : En) : Option RV → Out RV
  | some (.v d) => onB d (o2B o2 y (evE ft gl c e)) (.ok (.v (.bool false)) e)
  | some (.l _) => .bad
  | none => .bad
@[simp] theorem chC_0 (ft : FT) (gl : List PyData) (o2 : Op2) (y : RV) (c : E) (e : En) (d : PyData) : chC ft gl o2 y c e (some (.v d)) = onB d (o2B o2 y (evE ft gl c e)) (.ok (.v (.bool false)) e) := rfl
@[simp] theorem chC_1 (ft : FT) (gl : List PyData) (o2 : Op2) (y : RV) (c : E) (e : En) (z : List PyData) : chC ft gl o2 y c e (some (.l z)) = .bad := rfl
@[simp] theorem chC_2 (ft : FT) (gl : List PyData) (o2 : Op2) (y : RV) (c : E) (e : En)  : chC ft gl o2 y c e (none) = .bad := rfl
def chB (ft : FT) (gl : List PyData) (o1 o2 : Op2) (x : RV) (c : E) : Out RV → Out RV
  | .ok y e => chC ft gl o2 y c e (sem2 o1 x.d y.d)
  | .exc c s e => .exc c s e
  | .bad => .bad
@[simp] theorem chB_ok (ft : FT) (gl : List PyData) (o1 o2 : Op2) (x : RV) (c : E) (y : RV) (e : En) : chB ft gl o1 o2 x c (.ok y e) = chC ft gl o2 y c e (sem2 o1 x.d y.d) := rfl
@[simp] theorem chB_exc (ft : FT) (gl : List PyData) (o1 o2 : Op2) (x : RV) (c : E) (c__ : Nat) (s__ : Str) (e__ : En) : chB ft gl o1 o2 x c (.exc c__ s__ e__) = .exc c__ s__ e__ := rfl
@[simp] theorem chB_ite (ft : FT) (gl : List PyData) (o1 o2 : Op2) (x : RV) (c : E) (c__ : Prop) [Decidable c__] (x__ y__ : Out RV) : chB ft gl o1 o2 x c (if c__ then x__ else y__) = if c__ then chB ft gl o1 o2 x c x__ else chB ft gl o1 o2 x c y__ := by split <;> rfl
def chA (ft : FT) (gl : List PyData) (o1 o2 : Op2) (b c : E) : Out RV → Out RV
  | .ok x e => chB ft gl o1 o2 x c (evE ft gl b e)
  | .exc c s e => .exc c s e
  | .bad => .bad
@[simp] theorem chA_ok (ft : FT) (gl : List PyData) (o1 o2 : Op2) (b c : E) (x : RV) (e : En) : chA ft gl o1 o2 b c (.ok x e) = chB ft gl o1 o2 x c (evE ft gl b e) := rfl
@[simp] theorem chA_exc (ft : FT) (gl : List PyData) (o1 o2 : Op2) (b c : E) (c__ : Nat) (s__ : Str) (e__ : En) : chA ft gl o1 o2 b c (.exc c__ s__ e__) = .exc c__ s__ e__ := rfl
@[simp] theorem chA_ite (ft : FT) (gl : List PyData) (o1 o2 : Op2) (b c : E) (c__ : Prop) [Decidable c__] (x__ y__ : Out RV) : chA ft gl o1 o2 b c (if c__ then x__ else y__) = if c__ then chA ft gl o1 o2 b c x__ else chA ft gl o1 o2 b c y__ := by split <;> rfl
def anK (ft : FT) (gl : List PyData) (b : E) : Out RV → Out RV
  | .ok x e => onB x.d (evE ft gl b e) (.ok (.v (.bool false)) e)
  | .exc c s e => .exc c s e
  | .bad => .bad
@[simp] theorem anK_ok (ft : FT) (gl : List PyData) (b : E) (x : RV) (e : En) : anK ft gl b (.ok x e) = onB x.d (evE ft gl b e) (.ok (.v (.bool false)) e) := rfl
@[simp] theorem anK_exc (ft : FT) (gl : List PyData) (b : E) (c__ : Nat) (s__ : Str) (e__ : En) : anK ft gl b (.exc c__ s__ e__) = .exc c__ s__ e__ := rfl
@[simp] theorem anK_ite (ft : FT) (gl : List PyData) (b : E) (c__ : Prop) [Decidable c__] (x__ y__ : Out RV) : anK ft gl b (if c__ then x__ else y__) = if c__ then anK ft gl b x__ else anK ft gl b y__ := by split <;> rfl
def orK (ft : FT) (gl : List PyData) (b : E) : Out RV → Out RV
  | .ok x e => onB x.d (.ok (.v (.bool true)) e) (evE ft gl b e)
  | .exc c s e => .exc c s e
  | .bad => .bad
@[simp] theorem orK_ok (ft : FT) (gl : List PyData) (b : E) (x : RV) (e : En) : orK ft gl b (.ok x e) = onB x.d (.ok (.v (.bool true)) e) (evE ft gl b e) := rfl
@[simp] theorem orK_exc (ft : FT) (gl : List PyData) (b : E) (c__ : Nat) (s__ : Str) (e__ : En) : orK ft gl b (.exc c__ s__ e__) = .exc c__ s__ e__ := rfl
@[simp] theorem orK_ite (ft : FT) (gl : List PyData) (b : E) (c__ : Prop) [Decidable c__] (x__ y__ : Out RV) : orK ft gl b (if c__ then x__ else y__) = if c__ then orK ft gl b x__ else orK ft gl b y__ := by split <;> rfl
def tsK  : Out RV → Out Bool
  | .ok r e => .lift (truth r.d) e
  | .exc c s e => .exc c s e
  | .bad => .bad
@[simp] theorem tsK_ok  (r : RV) (e : En) : tsK  (.ok r e) = .lift (truth r.d) e := rfl
@[simp] theorem tsK_exc  (c__ : Nat) (s__ : Str) (e__ : En) : tsK  (.exc c__ s__ e__) = .exc c__ s__ e__ := rfl
@[simp] theorem tsK_ite  (c__ : Prop) [Decidable c__] (x__ y__ : Out RV) : tsK  (if c__ then x__ else y__) = if c__ then tsK  x__ else tsK  y__ := by split <;> rfl
def noK  : Out Bool → Out RV
  | .ok b e => .ok (.v (.bool (!b))) e
  | .exc c s e => .exc c s e
  | .bad => .bad
@[simp] theorem noK_ok  (b : Bool) (e : En) : noK  (.ok b e) = .ok (.v (.bool (!b))) e := rfl
@[simp] theorem noK_exc  (c__ : Nat) (s__ : Str) (e__ : En) : noK  (.exc c__ s__ e__) = .exc c__ s__ e__ := rfl
@[simp] theorem noK_ite  (c__ : Prop) [Decidable c__] (x__ y__ : Out Bool) : noK  (if c__ then x__ else y__) = if c__ then noK  x__ else noK  y__ := by split <;> rfl
def ifK (ft : FT) (gl : List PyData) (a b : E) : Out Bool → Out RV
  | .ok k e => if k = true then evE ft gl a e else evE ft gl b e
  | .exc c s e => .exc c s e
  | .bad => .bad
@[simp] theorem ifK_ok (ft : FT) (gl : List PyData) (a b : E) (k : Bool) (e : En) : ifK ft gl a b (.ok k e) = if k = true then evE ft gl a e else evE ft gl b e := rfl
@[simp] theorem ifK_exc (ft : FT) (gl : List PyData) (a b : E) (c__ : Nat) (s__ : Str) (e__ : En) : ifK ft gl a b (.exc c__ s__ e__) = .exc c__ s__ e__ := rfl
@[simp] theorem ifK_ite (ft : FT) (gl : List PyData) (a b : E) (c__ : Prop) [Decidable c__] (x__ y__ : Out Bool) : ifK ft gl a b (if c__ then x__ else y__) = if c__ then ifK ft gl a b x__ else ifK ft gl a b y__ := by split <;> rfl
def tuK  : Out (List PyData) → Out RV
  | .ok ds e => if szOk ds.length = true then .ok (.v (.tuple ds)) e else .bad
  | .exc c s e => .exc c s e
  | .bad => .bad
@[simp] theorem tuK_ok  (ds : List PyData) (e : En) : tuK  (.ok ds e) = if szOk ds.length = true then .ok (.v (.tuple ds)) e else .bad := rfl
@[simp] theorem tuK_exc  (c__ : Nat) (s__ : Str) (e__ : En) : tuK  (.exc c__ s__ e__) = .exc c__ s__ e__ := rfl
@[simp] theorem tuK_ite  (c__ : Prop) [Decidable c__] (x__ y__ : Out (List PyData)) : tuK  (if c__ then x__ else y__) = if c__ then tuK  x__ else tuK  y__ := by split <;> rfl
def lsK  : Out (List PyData) → Out RV
  | .ok ds e => if szOk ds.length = true then .ok (.l ds) e else .bad
  | .exc c s e => .exc c s e
  | .bad => .bad
@[simp] theorem lsK_ok  (ds : List PyData) (e : En) : lsK  (.ok ds e) = if szOk ds.length = true then .ok (.l ds) e else .bad := rfl
@[simp] theorem lsK_exc  (c__ : Nat) (s__ : Str) (e__ : En) : lsK  (.exc c__ s__ e__) = .exc c__ s__ e__ := rfl
@[simp] theorem lsK_ite  (c__ : Prop) [Decidable c__] (x__ y__ : Out (List PyData)) : lsK  (if c__ then x__ else y__) = if c__ then lsK  x__ else lsK  y__ := by split <;> rfl
def slB (i : Nat) (l : Option Int) : Out (Option Int) → Out RV
  | .ok h e => .lift ((rdB i e).bind fun u => semSl u l h) e
  | .exc c s e => .exc c s e
  | .bad => .bad
@[simp] theorem slB_ok (i : Nat) (l : Option Int) (h : Option Int) (e : En) : slB i l (.ok h e) = .lift ((rdB i e).bind fun u => semSl u l h) e := rfl
@[simp] theorem slB_exc (i : Nat) (l : Option Int) (c__ : Nat) (s__ : Str) (e__ : En) : slB i l (.exc c__ s__ e__) = .exc c__ s__ e__ := rfl
@[simp] theorem slB_ite (i : Nat) (l : Option Int) (c__ : Prop) [Decidable c__] (x__ y__ : Out (Option Int)) : slB i l (if c__ then x__ else y__) = if c__ then slB i l x__ else slB i l y__ := by split <;> rfl
def slA (ft : FT) (gl : List PyData) (i : Nat) (hi : SE) : Out (Option Int) → Out RV
  | .ok l e => slB i l (evS ft gl hi e)
  | .exc c s e => .exc c s e
  | .bad => .bad
@[simp] theorem slA_ok (ft : FT) (gl : List PyData) (i : Nat) (hi : SE) (l : Option Int) (e : En) : slA ft gl i hi (.ok l e) = slB i l (evS ft gl hi e) := rfl
@[simp] theorem slA_exc (ft : FT) (gl : List PyData) (i : Nat) (hi : SE) (c__ : Nat) (s__ : Str) (e__ : En) : slA ft gl i hi (.exc c__ s__ e__) = .exc c__ s__ e__ := rfl
@[simp] theorem slA_ite (ft : FT) (gl : List PyData) (i : Nat) (hi : SE) (c__ : Prop) [Decidable c__] (x__ y__ : Out (Option Int)) : slA ft gl i hi (if c__ then x__ else y__) = if c__ then slA ft gl i hi x__ else slA ft gl i hi y__ := by split <;> rfl
def slE (r : RV) (l : Option Int) : Out (Option Int) → Out RV
  | .ok h e => .lift (semSl r.d l h) e
  | .exc c s e => .exc c s e
  | .bad => .bad
@[simp] theorem slE_ok (r : RV) (l : Option Int) (h : Option Int) (e : En) : slE r l (.ok h e) = .lift (semSl r.d l h) e := rfl
@[simp] theorem slE_exc (r : RV) (l : Option Int) (c__ : Nat) (s__ : Str) (e__ : En) : slE r l (.exc c__ s__ e__) = .exc c__ s__ e__ := rfl
@[simp] theorem slE_ite (r : RV) (l : Option Int) (c__ : Prop) [Decidable c__] (x__ y__ : Out (Option Int)) : slE r l (if c__ then x__ else y__) = if c__ then slE r l x__ else slE r l y__ := by split <;> rfl
def slD (ft : FT) (gl : List PyData) (r : RV) (hi : SE) : Out (Option Int) → Out RV
  | .ok l e => slE r l (evS ft gl hi e)
  | .exc c s e => .exc c s e
  | .bad => .bad
@[simp] theorem slD_ok (ft : FT) (gl : List PyData) (r : RV) (hi : SE) (l : Option Int) (e : En) : slD ft gl r hi (.ok l e) = slE r l (evS ft gl hi e) := rfl
@[simp] theorem slD_exc (ft : FT) (gl : List PyData) (r : RV) (hi : SE) (c__ : Nat) (s__ : Str) (e__ : En) : slD ft gl r hi (.exc c__ s__ e__) = .exc c__ s__ e__ := rfl
@[simp] theorem slD_ite (ft : FT) (gl : List PyData) (r : RV) (hi : SE) (c__ : Prop) [Decidable c__] (x__ y__ : Out (Option Int)) : slD ft gl r hi (if c__ then x__ else y__) = if c__ then slD ft gl r hi x__ else slD ft gl r hi y__ := by split <;> rfl
def slC (ft : FT) (gl : List PyData) (lo hi : SE) : Out RV → Out RV
  | .ok r e => slD ft gl r hi (evS ft gl lo e)
  | .exc c s e => .exc c s e
  | .bad => .bad
@[simp] theorem slC_ok (ft : FT) (gl : List PyData) (lo hi : SE) (r : RV) (e : En) : slC ft gl lo hi (.ok r e) = slD ft gl r hi (evS ft gl lo e) := rfl
@[simp] theorem slC_exc (ft : FT) (gl : List PyData) (lo hi : SE) (c__ : Nat) (s__ : Str) (e__ : En) : slC ft gl lo hi (.exc c__ s__ e__) = .exc c__ s__ e__ := rfl
@[simp] theorem slC_ite (ft : FT) (gl : List PyData) (lo hi : SE) (c__ : Prop) [Decidable c__] (x__ y__ : Out RV) : slC ft gl lo hi (if c__ then x__ else y__) = if c__ then slC ft gl lo hi x__ else slC ft gl lo hi y__ := by split <;> rfl
def soK  : Out RV → Out (Option Int)
  | .ok r e => .lift (oneI (.v r.d)) e
  | .exc c s e => .exc c s e
  | .bad => .bad
@[simp] theorem soK_ok  (r : RV) (e : En) : soK  (.ok r e) = .lift (oneI (.v r.d)) e := rfl
@[simp] theorem soK_exc  (c__ : Nat) (s__ : Str) (e__ : En) : soK  (.exc c__ s__ e__) = .exc c__ s__ e__ := rfl
@[simp] theorem soK_ite  (c__ : Prop) [Decidable c__] (x__ y__ : Out RV) : soK  (if c__ then x__ else y__) = if c__ then soK  x__ else soK  y__ := by split <;> rfl
def esB (r : RV) : Out (List PyData) → Out (List PyData)
  | .ok ds e => .ok (r.d :: ds) e
  | .exc c s e => .exc c s e
  | .bad => .bad
@[simp] theorem esB_ok (r : RV) (ds : List PyData) (e : En) : esB r (.ok ds e) = .ok (r.d :: ds) e := rfl
@[simp] theorem esB_exc (r : RV) (c__ : Nat) (s__ : Str) (e__ : En) : esB r (.exc c__ s__ e__) = .exc c__ s__ e__ := rfl
@[simp] theorem esB_ite (r : RV) (c__ : Prop) [Decidable c__] (x__ y__ : Out (List PyData)) : esB r (if c__ then x__ else y__) = if c__ then esB r x__ else esB r y__ := by split <;> rfl
def esA (ft : FT) (gl : List PyData) (es : Es) : Out RV → Out (List PyData)
  | .ok r e => esB r (evEs ft gl es e)
  | .exc c s e => .exc c s e
  | .bad => .bad
@[simp] theorem esA_ok (ft : FT) (gl : List PyData) (es : Es) (r : RV) (e : En) : esA ft gl es (.ok r e) = esB r (evEs ft gl es e) := rfl
@[simp] theorem esA_exc (ft : FT) (gl : List PyData) (es : Es) (c__ : Nat) (s__ : Str) (e__ : En) : esA ft gl es (.exc c__ s__ e__) = .exc c__ s__ e__ := rfl
@[simp] theorem esA_ite (ft : FT) (gl : List PyData) (es : Es) (c__ : Prop) [Decidable c__] (x__ y__ : Out RV) : esA ft gl es (if c__ then x__ else y__) = if c__ then esA ft gl es x__ else esA ft gl es y__ := by split <;> rfl
def caK (ft : FT) (f : Nat) : Out (List PyData) → Out RV
  | .ok ds e => fo e (ft f (ds.map .val))
  | .exc c s e => .exc c s e
  | .bad => .bad
@[simp] theorem caK_ok (ft : FT) (f : Nat) (ds : List PyData) (e : En) : caK ft f (.ok ds e) = fo e (ft f (ds.map .val)) := rfl
@[simp] theorem caK_exc (ft : FT) (f : Nat) (c__ : Nat) (s__ : Str) (e__ : En) : caK ft f (.exc c__ s__ e__) = .exc c__ s__ e__ := rfl
@[simp] theorem caK_ite (ft : FT) (f : Nat) (c__ : Prop) [Decidable c__] (x__ y__ : Out (List PyData)) : caK ft f (if c__ then x__ else y__) = if c__ then caK ft f x__ else caK ft f y__ := by split <;> rfl
def ciL (ft : FT) (f i : Nat) (ds : List PyData) (e : En) : Option (List PyData) → Out RV
  | some xs => fi i e (ft f (.io xs :: ds.map .val))
  | none => .bad
@[simp] theorem ciL_0 (ft : FT) (f i : Nat) (ds : List PyData) (e : En) (xs : List PyData) : ciL ft f i ds e (some xs) = fi i e (ft f (.io xs :: ds.map .val)) := rfl
@[simp] theorem ciL_1 (ft : FT) (f i : Nat) (ds : List PyData) (e : En)  : ciL ft f i ds e (none) = .bad := rfl
def ciK (ft : FT) (f i : Nat) : Out (List PyData) → Out RV
  | .ok ds e => ciL ft f i ds e (rdM i e)
  | .exc c s e => .exc c s e
  | .bad => .bad
@[simp] theorem ciK_ok (ft : FT) (f i : Nat) (ds : List PyData) (e : En) : ciK ft f i (.ok ds e) = ciL ft f i ds e (rdM i e) := rfl
@[simp] theorem ciK_exc (ft : FT) (f i : Nat) (c__ : Nat) (s__ : Str) (e__ : En) : ciK ft f i (.exc c__ s__ e__) = .exc c__ s__ e__ := rfl
@[simp] theorem ciK_ite (ft : FT) (f i : Nat) (c__ : Prop) [Decidable c__] (x__ y__ : Out (List PyData)) : ciK ft f i (if c__ then x__ else y__) = if c__ then ciK ft f i x__ else ciK ft f i y__ := by split <;> rfl
def ckL (ft : FT) (f : Nat) (e : En) : Option (List PyData) → Out RV
  | some vs => fo e (ft f (vs.map .val))
  | none => .bad
@[simp] theorem ckL_0 (ft : FT) (f : Nat) (e : En) (vs : List PyData) : ckL ft f e (some vs) = fo e (ft f (vs.map .val)) := rfl
@[simp] theorem ckL_1 (ft : FT) (f : Nat) (e : En)  : ckL ft f e (none) = .bad := rfl
def ckK (ft : FT) (f : Nat) (perm : List Nat) : Out (List PyData) → Out RV
  | .ok ds e => ckL ft f e (permD perm ds)
  | .exc c s e => .exc c s e
  | .bad => .bad
@[simp] theorem ckK_ok (ft : FT) (f : Nat) (perm : List Nat) (ds : List PyData) (e : En) : ckK ft f perm (.ok ds e) = ckL ft f e (permD perm ds) := rfl
@[simp] theorem ckK_exc (ft : FT) (f : Nat) (perm : List Nat) (c__ : Nat) (s__ : Str) (e__ : En) : ckK ft f perm (.exc c__ s__ e__) = .exc c__ s__ e__ := rfl
@[simp] theorem ckK_ite (ft : FT) (f : Nat) (perm : List Nat) (c__ : Prop) [Decidable c__] (x__ y__ : Out (List PyData)) : ckK ft f perm (if c__ then x__ else y__) = if c__ then ckK ft f perm x__ else ckK ft f perm y__ := by split <;> rfl
def cpK (ft : FT) (gl : List PyData) (own : List Nat) (p : Pat) (lk : List Nat) (hc : Bool) (c e0 : E) : Out (List PyData) → Out RV
  | .ok xs e => if walkable own e lk = true then compEnd own lk e (compE ft gl own p hc c e0 xs (lockE (wipeE e own) lk)) else .bad
  | .exc c s e => .exc c s e
  | .bad => .bad
@[simp] theorem cpK_ok (ft : FT) (gl : List PyData) (own : List Nat) (p : Pat) (lk : List Nat) (hc : Bool) (c e0 : E) (xs : List PyData) (e : En) : cpK ft gl own p lk hc c e0 (.ok xs e) = if walkable own e lk = true then compEnd own lk e (compE ft gl own p hc c e0 xs (lockE (wipeE e own) lk)) else .bad := rfl
@[simp] theorem cpK_exc (ft : FT) (gl : List PyData) (own : List Nat) (p : Pat) (lk : List Nat) (hc : Bool) (c e0 : E) (c__ : Nat) (s__ : Str) (e__ : En) : cpK ft gl own p lk hc c e0 (.exc c__ s__ e__) = .exc c__ s__ e__ := rfl
@[simp] theorem cpK_ite (ft : FT) (gl : List PyData) (own : List Nat) (p : Pat) (lk : List Nat) (hc : Bool) (c e0 : E) (c__ : Prop) [Decidable c__] (x__ y__ : Out (List PyData)) : cpK ft gl own p lk hc c e0 (if c__ then x__ else y__) = if c__ then cpK ft gl own p lk hc c e0 x__ else cpK ft gl own p lk hc c e0 y__ := by split <;> rfl
def poK (i : Nat) : Out RV → Out RV
  | .ok x e => popS i x.d e
  | .exc c s e => .exc c s e
  | .bad => .bad
@[simp] theorem poK_ok (i : Nat) (x : RV) (e : En) : poK i (.ok x e) = popS i x.d e := rfl
@[simp] theorem poK_exc (i : Nat) (c__ : Nat) (s__ : Str) (e__ : En) : poK i (.exc c__ s__ e__) = .exc c__ s__ e__ := rfl
@[simp] theorem poK_ite (i : Nat) (c__ : Prop) [Decidable c__] (x__ y__ : Out RV) : poK i (if c__ then x__ else y__) = if c__ then poK i x__ else poK i y__ := by split <;> rfl
def lzK  : Out RV → Out RV
  | .ok r e => .lift (lenSetD r.d) e
  | .exc c s e => .exc c s e
  | .bad => .bad
@[simp] theorem lzK_ok  (r : RV) (e : En) : lzK  (.ok r e) = .lift (lenSetD r.d) e := rfl
@[simp] theorem lzK_exc  (c__ : Nat) (s__ : Str) (e__ : En) : lzK  (.exc c__ s__ e__) = .exc c__ s__ e__ := rfl
@[simp] theorem lzK_ite  (c__ : Prop) [Decidable c__] (x__ y__ : Out RV) : lzK  (if c__ then x__ else y__) = if c__ then lzK  x__ else lzK  y__ := by split <;> rfl
def r1K  : Out RV → Out (List PyData)
  | .ok x e => .lift (rng1 x.d) e
  | .exc c s e => .exc c s e
  | .bad => .bad
@[simp] theorem r1K_ok  (x : RV) (e : En) : r1K  (.ok x e) = .lift (rng1 x.d) e := rfl
@[simp] theorem r1K_exc  (c__ : Nat) (s__ : Str) (e__ : En) : r1K  (.exc c__ s__ e__) = .exc c__ s__ e__ := rfl
@[simp] theorem r1K_ite  (c__ : Prop) [Decidable c__] (x__ y__ : Out RV) : r1K  (if c__ then x__ else y__) = if c__ then r1K  x__ else r1K  y__ := by split <;> rfl
def r2B (x : RV) : Out RV → Out (List PyData)
  | .ok y e => .lift (rng2 x.d y.d) e
  | .exc c s e => .exc c s e
  | .bad => .bad
@[simp] theorem r2B_ok (x : RV) (y : RV) (e : En) : r2B x (.ok y e) = .lift (rng2 x.d y.d) e := rfl
@[simp] theorem r2B_exc (x : RV) (c__ : Nat) (s__ : Str) (e__ : En) : r2B x (.exc c__ s__ e__) = .exc c__ s__ e__ := rfl
@[simp] theorem r2B_ite (x : RV) (c__ : Prop) [Decidable c__] (x__ y__ : Out RV) : r2B x (if c__ then x__ else y__) = if c__ then r2B x x__ else r2B x y__ := by split <;> rfl
def r2A (ft : FT) (gl : List PyData) (b : E) : Out RV → Out (List PyData)
  | .ok x e => r2B x (evE ft gl b e)
  | .exc c s e => .exc c s e
  | .bad => .bad
@[simp] theorem r2A_ok (ft : FT) (gl : List PyData) (b : E) (x : RV) (e : En) : r2A ft gl b (.ok x e) = r2B x (evE ft gl b e) := rfl
@[simp] theorem r2A_exc (ft : FT) (gl : List PyData) (b : E) (c__ : Nat) (s__ : Str) (e__ : En) : r2A ft gl b (.exc c__ s__ e__) = .exc c__ s__ e__ := rfl
@[simp] theorem r2A_ite (ft : FT) (gl : List PyData) (b : E) (c__ : Prop) [Decidable c__] (x__ y__ : Out RV) : r2A ft gl b (if c__ then x__ else y__) = if c__ then r2A ft gl b x__ else r2A ft gl b y__ := by split <;> rfl
def r3C (x y : RV) : Out RV → Out (List PyData)
  | .ok z e => .lift (rng3 x.d y.d z.d) e
  | .exc c s e => .exc c s e
  | .bad => .bad
@[simp] theorem r3C_ok (x y : RV) (z : RV) (e : En) : r3C x y (.ok z e) = .lift (rng3 x.d y.d z.d) e := rfl
@[simp] theorem r3C_exc (x y : RV) (c__ : Nat) (s__ : Str) (e__ : En) : r3C x y (.exc c__ s__ e__) = .exc c__ s__ e__ := rfl
@[simp] theorem r3C_ite (x y : RV) (c__ : Prop) [Decidable c__] (x__ y__ : Out RV) : r3C x y (if c__ then x__ else y__) = if c__ then r3C x y x__ else r3C x y y__ := by split <;> rfl
def r3B (ft : FT) (gl : List PyData) (x : RV) (c : E) : Out RV → Out (List PyData)
  | .ok y e => r3C x y (evE ft gl c e)
  | .exc c s e => .exc c s e
  | .bad => .bad
@[simp] theorem r3B_ok (ft : FT) (gl : List PyData) (x : RV) (c : E) (y : RV) (e : En) : r3B ft gl x c (.ok y e) = r3C x y (evE ft gl c e) := rfl
@[simp] theorem r3B_exc (ft : FT) (gl : List PyData) (x : RV) (c : E) (c__ : Nat) (s__ : Str) (e__ : En) : r3B ft gl x c (.exc c__ s__ e__) = .exc c__ s__ e__ := rfl
@[simp] theorem r3B_ite (ft : FT) (gl : List PyData) (x : RV) (c : E) (c__ : Prop) [Decidable c__] (x__ y__ : Out RV) : r3B ft gl x c (if c__ then x__ else y__) = if c__ then r3B ft gl x c x__ else r3B ft gl x c y__ := by split <;> rfl
def r3A (ft : FT) (gl : List PyData) (b c : E) : Out RV → Out (List PyData)
  | .ok x e => r3B ft gl x c (evE ft gl b e)
  | .exc c s e => .exc c s e
  | .bad => .bad
@[simp] theorem r3A_ok (ft : FT) (gl : List PyData) (b c : E) (x : RV) (e : En) : r3A ft gl b c (.ok x e) = r3B ft gl x c (evE ft gl b e) := rfl
@[simp] theorem r3A_exc (ft : FT) (gl : List PyData) (b c : E) (c__ : Nat) (s__ : Str) (e__ : En) : r3A ft gl b c (.exc c__ s__ e__) = .exc c__ s__ e__ := rfl
@[simp] theorem r3A_ite (ft : FT) (gl : List PyData) (b c : E) (c__ : Prop) [Decidable c__] (x__ y__ : Out RV) : r3A ft gl b c (if c__ then x__ else y__) = if c__ then r3A ft gl b c x__ else r3A ft gl b c y__ := by split <;> rfl
def sqK  : Out RV → Out (List PyData)
  | .ok r e => .lift (seqOf r.d) e
  | .exc c s e => .exc c s e
  | .bad => .bad
@[simp] theorem sqK_ok  (r : RV) (e : En) : sqK  (.ok r e) = .lift (seqOf r.d) e := rfl
@[simp] theorem sqK_exc  (c__ : Nat) (s__ : Str) (e__ : En) : sqK  (.exc c__ s__ e__) = .exc c__ s__ e__ := rfl
@[simp] theorem sqK_ite  (c__ : Prop) [Decidable c__] (x__ y__ : Out RV) : sqK  (if c__ then x__ else y__) = if c__ then sqK  x__ else sqK  y__ := by split <;> rfl
def enK  : Out RV → Out (List PyData)
  | .ok r e => .lift ((seqOf r.d).map enumD) e
  | .exc c s e => .exc c s e
  | .bad => .bad
@[simp] theorem enK_ok  (r : RV) (e : En) : enK  (.ok r e) = .lift ((seqOf r.d).map enumD) e := rfl
@[simp] theorem enK_exc  (c__ : Nat) (s__ : Str) (e__ : En) : enK  (.exc c__ s__ e__) = .exc c__ s__ e__ := rfl
@[simp] theorem enK_ite  (c__ : Prop) [Decidable c__] (x__ y__ : Out RV) : enK  (if c__ then x__ else y__) = if c__ then enK  x__ else enK  y__ := by split <;> rfl
def zpC (i : Nat) : Out RV → Out (List PyData)
  | .ok s e => .lift (((rdB i e).bind seqOf).bind fun xs => (seqOf s.d).map fun ys => zipD xs ys) e
  | .exc c s e => .exc c s e
  | .bad => .bad
@[simp] theorem zpC_ok (i : Nat) (s : RV) (e : En) : zpC i (.ok s e) = .lift (((rdB i e).bind seqOf).bind fun xs => (seqOf s.d).map fun ys => zipD xs ys) e := rfl
@[simp] theorem zpC_exc (i : Nat) (c__ : Nat) (s__ : Str) (e__ : En) : zpC i (.exc c__ s__ e__) = .exc c__ s__ e__ := rfl
@[simp] theorem zpC_ite (i : Nat) (c__ : Prop) [Decidable c__] (x__ y__ : Out RV) : zpC i (if c__ then x__ else y__) = if c__ then zpC i x__ else zpC i y__ := by split <;> rfl
def zpD (j : Nat) : Out RV → Out (List PyData)
  | .ok r e => .lift ((seqOf r.d).bind fun xs => ((rdB j e).bind seqOf).map fun ys => zipD xs ys) e
  | .exc c s e => .exc c s e
  | .bad => .bad
@[simp] theorem zpD_ok (j : Nat) (r : RV) (e : En) : zpD j (.ok r e) = .lift ((seqOf r.d).bind fun xs => ((rdB j e).bind seqOf).map fun ys => zipD xs ys) e := rfl
@[simp] theorem zpD_exc (j : Nat) (c__ : Nat) (s__ : Str) (e__ : En) : zpD j (.exc c__ s__ e__) = .exc c__ s__ e__ := rfl
@[simp] theorem zpD_ite (j : Nat) (c__ : Prop) [Decidable c__] (x__ y__ : Out RV) : zpD j (if c__ then x__ else y__) = if c__ then zpD j x__ else zpD j y__ := by split <;> rfl
def zpB (r : RV) : Out RV → Out (List PyData)
  | .ok s e => .lift ((seqOf r.d).bind fun xs => (seqOf s.d).map fun ys => zipD xs ys) e
  | .exc c s e => .exc c s e
  | .bad => .bad
@[simp] theorem zpB_ok (r : RV) (s : RV) (e : En) : zpB r (.ok s e) = .lift ((seqOf r.d).bind fun xs => (seqOf s.d).map fun ys => zipD xs ys) e := rfl
@[simp] theorem zpB_exc (r : RV) (c__ : Nat) (s__ : Str) (e__ : En) : zpB r (.exc c__ s__ e__) = .exc c__ s__ e__ := rfl
@[simp] theorem zpB_ite (r : RV) (c__ : Prop) [Decidable c__] (x__ y__ : Out RV) : zpB r (if c__ then x__ else y__) = if c__ then zpB r x__ else zpB r y__ := by split <;> rfl
def zpA (ft : FT) (gl : List PyData) (y : E) : Out RV → Out (List PyData)
  | .ok r e => zpB r (evE ft gl y e)
  | .exc c s e => .exc c s e
  | .bad => .bad
@[simp] theorem zpA_ok (ft : FT) (gl : List PyData) (y : E) (r : RV) (e : En) : zpA ft gl y (.ok r e) = zpB r (evE ft gl y e) := rfl
@[simp] theorem zpA_exc (ft : FT) (gl : List PyData) (y : E) (c__ : Nat) (s__ : Str) (e__ : En) : zpA ft gl y (.exc c__ s__ e__) = .exc c__ s__ e__ := rfl
@[simp] theorem zpA_ite (ft : FT) (gl : List PyData) (y : E) (c__ : Prop) [Decidable c__] (x__ y__ : Out RV) : zpA ft gl y (if c__ then x__ else y__) = if c__ then zpA ft gl y x__ else zpA ft gl y y__ := by split <;> rfl
def csC (own : List Nat) : Out RV → Out (Option PyData)
  | .ok d e => .ok (some d.d) (wipeE e own)
  | .exc c s e => .exc c s e
  | .bad => .bad
@[simp] theorem csC_ok (own : List Nat) (d : RV) (e : En) : csC own (.ok d e) = .ok (some d.d) (wipeE e own) := rfl
@[simp] theorem csC_exc (own : List Nat) (c__ : Nat) (s__ : Str) (e__ : En) : csC own (.exc c__ s__ e__) = .exc c__ s__ e__ := rfl
@[simp] theorem csC_ite (own : List Nat) (c__ : Prop) [Decidable c__] (x__ y__ : Out RV) : csC own (if c__ then x__ else y__) = if c__ then csC own x__ else csC own y__ := by split <;> rfl
def csB (ft : FT) (gl : List PyData) (own : List Nat) (e0 : E) : Out Bool → Out (Option PyData)
  | .ok k e => if k = true then csC own (evE ft gl e0 e) else .ok none (wipeE e own)
  | .exc c s e => .exc c s e
  | .bad => .bad
@[simp] theorem csB_ok (ft : FT) (gl : List PyData) (own : List Nat) (e0 : E) (k : Bool) (e : En) : csB ft gl own e0 (.ok k e) = if k = true then csC own (evE ft gl e0 e) else .ok none (wipeE e own) := rfl
@[simp] theorem csB_exc (ft : FT) (gl : List PyData) (own : List Nat) (e0 : E) (c__ : Nat) (s__ : Str) (e__ : En) : csB ft gl own e0 (.exc c__ s__ e__) = .exc c__ s__ e__ := rfl
@[simp] theorem csB_ite (ft : FT) (gl : List PyData) (own : List Nat) (e0 : E) (c__ : Prop) [Decidable c__] (x__ y__ : Out Bool) : csB ft gl own e0 (if c__ then x__ else y__) = if c__ then csB ft gl own e0 x__ else csB ft gl own e0 y__ := by split <;> rfl
def csA (ft : FT) (gl : List PyData) (own : List Nat) (hc : Bool) (c e0 : E) : Option En → Out (Option PyData)
  | some e => csB ft gl own e0 (if hc = true then tst (evE ft gl c e) else .ok true e)
  | none => .bad
@[simp] theorem csA_0 (ft : FT) (gl : List PyData) (own : List Nat) (hc : Bool) (c e0 : E) (e : En) : csA ft gl own hc c e0 (some e) = csB ft gl own e0 (if hc = true then tst (evE ft gl c e) else .ok true e) := rfl
@[simp] theorem csA_1 (ft : FT) (gl : List PyData) (own : List Nat) (hc : Bool) (c e0 : E)  : csA ft gl own hc c e0 (none) = .bad := rfl
def exK  : Out RV → SOut
  | .ok _ e => .nx e
  | .exc c s e => .exc c s e
  | .bad => .bad
@[simp] theorem exK_ok  (z : RV) (e : En) : exK  (.ok z e) = .nx e := rfl
@[simp] theorem exK_exc  (c__ : Nat) (s__ : Str) (e__ : En) : exK  (.exc c__ s__ e__) = .exc c__ s__ e__ := rfl
@[simp] theorem exK_ite  (c__ : Prop) [Decidable c__] (x__ y__ : Out RV) : exK  (if c__ then x__ else y__) = if c__ then exK  x__ else exK  y__ := by split <;> rfl
def reK  : Out RV → SOut
  | .ok r e => .ret r e
  | .exc c s e => .exc c s e
  | .bad => .bad
@[simp] theorem reK_ok  (r : RV) (e : En) : reK  (.ok r e) = .ret r e := rfl
@[simp] theorem reK_exc  (c__ : Nat) (s__ : Str) (e__ : En) : reK  (.exc c__ s__ e__) = .exc c__ s__ e__ := rfl
@[simp] theorem reK_ite  (c__ : Prop) [Decidable c__] (x__ y__ : Out RV) : reK  (if c__ then x__ else y__) = if c__ then reK  x__ else reK  y__ := by split <;> rfl
def seK (m : Bool) (i : Nat) : Out RV → SOut
  | .ok r e => .opt (setR m i r e)
  | .exc c s e => .exc c s e
  | .bad => .bad
@[simp] theorem seK_ok (m : Bool) (i : Nat) (r : RV) (e : En) : seK m i (.ok r e) = .opt (setR m i r e) := rfl
@[simp] theorem seK_exc (m : Bool) (i : Nat) (c__ : Nat) (s__ : Str) (e__ : En) : seK m i (.exc c__ s__ e__) = .exc c__ s__ e__ := rfl
@[simp] theorem seK_ite (m : Bool) (i : Nat) (c__ : Prop) [Decidable c__] (x__ y__ : Out RV) : seK m i (if c__ then x__ else y__) = if c__ then seK m i x__ else seK m i y__ := by split <;> rfl
def stK (ms : List (Bool × Nat)) : Out (List RV) → SOut
  | .ok rs e => .opt (setRs ms rs e)
  | .exc c s e => .exc c s e
  | .bad => .bad
@[simp] theorem stK_ok (ms : List (Bool × Nat)) (rs : List RV) (e : En) : stK ms (.ok rs e) = .opt (setRs ms rs e) := rfl
@[simp] theorem stK_exc (ms : List (Bool × Nat)) (c__ : Nat) (s__ : Str) (e__ : En) : stK ms (.exc c__ s__ e__) = .exc c__ s__ e__ := rfl
@[simp] theorem stK_ite (ms : List (Bool × Nat)) (c__ : Prop) [Decidable c__] (x__ y__ : Out (List RV)) : stK ms (if c__ then x__ else y__) = if c__ then stK ms x__ else stK ms y__ := by split <;> rfl
def rsB (r : RV) : Out (List RV) → Out (List RV)
  | .ok rs e => .ok (r :: rs) e
  | .exc c s e => .exc c s e
  | .bad => .bad
@[simp] theorem rsB_ok (r : RV) (rs : List RV) (e : En) : rsB r (.ok rs e) = .ok (r :: rs) e := rfl
@[simp] theorem rsB_exc (r : RV) (c__ : Nat) (s__ : Str) (e__ : En) : rsB r (.exc c__ s__ e__) = .exc c__ s__ e__ := rfl
@[simp] theorem rsB_ite (r : RV) (c__ : Prop) [Decidable c__] (x__ y__ : Out (List RV)) : rsB r (if c__ then x__ else y__) = if c__ then rsB r x__ else rsB r y__ := by split <;> rfl
def rsA (ft : FT) (gl : List PyData) (m : Bool) (ms : List Bool) (es : Es) : Out RV → Out (List RV)
  | .ok r e => rsB (if m = true then r else .v r.d) (evRs ft gl ms es e)
  | .exc c s e => .exc c s e
  | .bad => .bad
@[simp] theorem rsA_ok (ft : FT) (gl : List PyData) (m : Bool) (ms : List Bool) (es : Es) (r : RV) (e : En) : rsA ft gl m ms es (.ok r e) = rsB (if m = true then r else .v r.d) (evRs ft gl ms es e) := rfl
@[simp] theorem rsA_exc (ft : FT) (gl : List PyData) (m : Bool) (ms : List Bool) (es : Es) (c__ : Nat) (s__ : Str) (e__ : En) : rsA ft gl m ms es (.exc c__ s__ e__) = .exc c__ s__ e__ := rfl
@[simp] theorem rsA_ite (ft : FT) (gl : List PyData) (m : Bool) (ms : List Bool) (es : Es) (c__ : Prop) [Decidable c__] (x__ y__ : Out RV) : rsA ft gl m ms es (if c__ then x__ else y__) = if c__ then rsA ft gl m ms es x__ else rsA ft gl m ms es y__ := by split <;> rfl
def sPK (p : Pat) : Out RV → SOut
  | .ok r e => .opt (bindP p r.d e)
  | .exc c s e => .exc c s e
  | .bad => .bad
@[simp] theorem sPK_ok (p : Pat) (r : RV) (e : En) : sPK p (.ok r e) = .opt (bindP p r.d e) := rfl
@[simp] theorem sPK_exc (p : Pat) (c__ : Nat) (s__ : Str) (e__ : En) : sPK p (.exc c__ s__ e__) = .exc c__ s__ e__ := rfl
@[simp] theorem sPK_ite (p : Pat) (c__ : Prop) [Decidable c__] (x__ y__ : Out RV) : sPK p (if c__ then x__ else y__) = if c__ then sPK p x__ else sPK p y__ := by split <;> rfl
def siB (i : Nat) (r : RV) : Out RV → SOut
  | .ok k e => setIS i r.d k.d e
  | .exc c s e => .exc c s e
  | .bad => .bad
@[simp] theorem siB_ok (i : Nat) (r : RV) (k : RV) (e : En) : siB i r (.ok k e) = setIS i r.d k.d e := rfl
@[simp] theorem siB_exc (i : Nat) (r : RV) (c__ : Nat) (s__ : Str) (e__ : En) : siB i r (.exc c__ s__ e__) = .exc c__ s__ e__ := rfl
@[simp] theorem siB_ite (i : Nat) (r : RV) (c__ : Prop) [Decidable c__] (x__ y__ : Out RV) : siB i r (if c__ then x__ else y__) = if c__ then siB i r x__ else siB i r y__ := by split <;> rfl
def siA (ft : FT) (gl : List PyData) (i : Nat) (ix : E) : Out RV → SOut
  | .ok r e => siB i r (evE ft gl ix e)
  | .exc c s e => .exc c s e
  | .bad => .bad
@[simp] theorem siA_ok (ft : FT) (gl : List PyData) (i : Nat) (ix : E) (r : RV) (e : En) : siA ft gl i ix (.ok r e) = siB i r (evE ft gl ix e) := rfl
@[simp] theorem siA_exc (ft : FT) (gl : List PyData) (i : Nat) (ix : E) (c__ : Nat) (s__ : Str) (e__ : En) : siA ft gl i ix (.exc c__ s__ e__) = .exc c__ s__ e__ := rfl
@[simp] theorem siA_ite (ft : FT) (gl : List PyData) (i : Nat) (ix : E) (c__ : Prop) [Decidable c__] (x__ y__ : Out RV) : siA ft gl i ix (if c__ then x__ else y__) = if c__ then siA ft gl i ix x__ else siA ft gl i ix y__ := by split <;> rfl
def auK (i : Nat) (x : Slot) : Out RV → SOut
  | .ok r e => augS i x r.d e
  | .exc c s e => .exc c s e
  | .bad => .bad
@[simp] theorem auK_ok (i : Nat) (x : Slot) (r : RV) (e : En) : auK i x (.ok r e) = augS i x r.d e := rfl
@[simp] theorem auK_exc (i : Nat) (x : Slot) (c__ : Nat) (s__ : Str) (e__ : En) : auK i x (.exc c__ s__ e__) = .exc c__ s__ e__ := rfl
@[simp] theorem auK_ite (i : Nat) (x : Slot) (c__ : Prop) [Decidable c__] (x__ y__ : Out RV) : auK i x (if c__ then x__ else y__) = if c__ then auK i x x__ else auK i x y__ := by split <;> rfl
def apS (i : Nat) (d : PyData) (e : En) : Option (List PyData) → SOut
  | some xs => if szOk (xs.length + 1) = true then .nx (wrM i (xs ++ [d]) e) else .bad
  | none => .bad
@[simp] theorem apS_0 (i : Nat) (d : PyData) (e : En) (xs : List PyData) : apS i d e (some xs) = if szOk (xs.length + 1) = true then .nx (wrM i (xs ++ [d]) e) else .bad := rfl
@[simp] theorem apS_1 (i : Nat) (d : PyData) (e : En)  : apS i d e (none) = .bad := rfl
def apK (i : Nat) : Out RV → SOut
  | .ok r e => apS i r.d e (rdM i e)
  | .exc c s e => .exc c s e
  | .bad => .bad
@[simp] theorem apK_ok (i : Nat) (r : RV) (e : En) : apK i (.ok r e) = apS i r.d e (rdM i e) := rfl
@[simp] theorem apK_exc (i : Nat) (c__ : Nat) (s__ : Str) (e__ : En) : apK i (.exc c__ s__ e__) = .exc c__ s__ e__ := rfl
@[simp] theorem apK_ite (i : Nat) (c__ : Prop) [Decidable c__] (x__ y__ : Out RV) : apK i (if c__ then x__ else y__) = if c__ then apK i x__ else apK i y__ := by split <;> rfl
def isK (ft : FT) (gl : List PyData) (fuel : Nat) (a b : Ss) : Out Bool → SOut
  | .ok k e => if k = true then exSs ft gl fuel a e else exSs ft gl fuel b e
  | .exc c s e => .exc c s e
  | .bad => .bad
@[simp] theorem isK_ok (ft : FT) (gl : List PyData) (fuel : Nat) (a b : Ss) (k : Bool) (e : En) : isK ft gl fuel a b (.ok k e) = if k = true then exSs ft gl fuel a e else exSs ft gl fuel b e := rfl
@[simp] theorem isK_exc (ft : FT) (gl : List PyData) (fuel : Nat) (a b : Ss) (c__ : Nat) (s__ : Str) (e__ : En) : isK ft gl fuel a b (.exc c__ s__ e__) = .exc c__ s__ e__ := rfl
@[simp] theorem isK_ite (ft : FT) (gl : List PyData) (fuel : Nat) (a b : Ss) (c__ : Prop) [Decidable c__] (x__ y__ : Out Bool) : isK ft gl fuel a b (if c__ then x__ else y__) = if c__ then isK ft gl fuel a b x__ else isK ft gl fuel a b y__ := by split <;> rfl
def foK (ft : FT) (gl : List PyData) (fuel : Nat) (p : Pat) (w : List Nat) (body : Ss) : Out (List PyData) → SOut
  | .ok xs e => forE ft gl fuel p w body xs (forgE e w)
  | .exc c s e => .exc c s e
  | .bad => .bad
@[simp] theorem foK_ok (ft : FT) (gl : List PyData) (fuel : Nat) (p : Pat) (w : List Nat) (body : Ss) (xs : List PyData) (e : En) : foK ft gl fuel p w body (.ok xs e) = forE ft gl fuel p w body xs (forgE e w) := rfl
@[simp] theorem foK_exc (ft : FT) (gl : List PyData) (fuel : Nat) (p : Pat) (w : List Nat) (body : Ss) (c__ : Nat) (s__ : Str) (e__ : En) : foK ft gl fuel p w body (.exc c__ s__ e__) = .exc c__ s__ e__ := rfl
@[simp] theorem foK_ite (ft : FT) (gl : List PyData) (fuel : Nat) (p : Pat) (w : List Nat) (body : Ss) (c__ : Prop) [Decidable c__] (x__ y__ : Out (List PyData)) : foK ft gl fuel p w body (if c__ then x__ else y__) = if c__ then foK ft gl fuel p w body x__ else foK ft gl fuel p w body y__ := by split <;> rfl
def raS (c : Nat) (e : En) : Option Str → SOut
  | some s => .exc c s e
  | none => .bad
@[simp] theorem raS_0 (c : Nat) (e : En) (s : Str) : raS c e (some s) = .exc c s e := rfl
@[simp] theorem raS_1 (c : Nat) (e : En)  : raS c e (none) = .bad := rfl
def raK (c : Nat) : Out RV → SOut
  | .ok r e => raS c e (strOf r.d)
  | .exc c s e => .exc c s e
  | .bad => .bad
@[simp] theorem raK_ok (c : Nat) (r : RV) (e : En) : raK c (.ok r e) = raS c e (strOf r.d) := rfl
@[simp] theorem raK_exc (c : Nat) (c__ : Nat) (s__ : Str) (e__ : En) : raK c (.exc c__ s__ e__) = .exc c__ s__ e__ := rfl
@[simp] theorem raK_ite (c : Nat) (c__ : Prop) [Decidable c__] (x__ y__ : Out RV) : raK c (if c__ then x__ else y__) = if c__ then raK c x__ else raK c y__ := by split <;> rfl
def f1A (ft : FT) (gl : List PyData) (fuel : Nat) (w : List Nat) (body : Ss) : Option En → SOut
  | some e => fgO w (exSs ft gl fuel body e)
  | none => .bad
@[simp] theorem f1A_0 (ft : FT) (gl : List PyData) (fuel : Nat) (w : List Nat) (body : Ss) (e : En) : f1A ft gl fuel w body (some e) = fgO w (exSs ft gl fuel body e) := rfl
@[simp] theorem f1A_1 (ft : FT) (gl : List PyData) (fuel : Nat) (w : List Nat) (body : Ss)  : f1A ft gl fuel w body (none) = .bad := rfl
/-! ### equations of what stands ahead -/
@[simp] theorem forgE_nil (e : En) : forgE e [] = e := rfl
@[simp] theorem wipeE_nil (e : En) : wipeE e [] = e := rfl
@[simp] theorem wipeE_cons (e : En) (i : Nat) (is : List Nat) : wipeE e (i :: is) = (wipeE e is).set i .non := rfl
@[simp] theorem backE_nil (o e : En) : backE o e [] = e := rfl
@[simp] theorem backE_cons (o e : En) (i : Nat) (is : List Nat) : backE o e (i :: is) = (backE o e is).set i (o.gt i) := rfl
@[simp] theorem setR_tl (i : Nat) (xs : List PyData) (e : En) : setR true i (.l xs) e = if free i e = true then some (e.set i (.own xs)) else none := rfl
@[simp] theorem setR_tv (i : Nat) (d : PyData) (e : En) : setR true i (.v d) e = if free i e = true then some (e.set i (.val d)) else none := rfl
@[simp] theorem setR_f (i : Nat) (r : RV) (e : En) : setR false i r e = if free i e = true then some (e.set i (.val r.d)) else none := by cases r <;> rfl
@[simp] theorem setRs_nil (e : En) : setRs [] [] e = some e := rfl
@[simp] theorem setRs_cons (m : Bool) (i : Nat) (ms : List (Bool × Nat)) (r : RV) (rs : List RV) (e : En) : setRs ((m, i) :: ms) (r :: rs) e = (setR m i r e).bind (setRs ms rs) := rfl
@[simp] theorem bindP_nm (i : Nat) (d : PyData) (e : En) : bindP (.nm i) d e = stV i d e := rfl
@[simp] theorem bindP_two (p q : Pat) (a b : PyData) (e : En) : bindP (.two p q) (.tuple [a, b]) e = (bindP p a e).bind (bindP q b) := rfl
@[simp] theorem bindP_three (p q r : Pat) (a b c : PyData) (e : En) : bindP (.three p q r) (.tuple [a, b, c]) e = (bindP p a e).bind fun e => (bindP q b e).bind (bindP r c) := rfl
@[simp] theorem stV_eq (i : Nat) (d : PyData) (e : En) : stV i d e = if free i e = true then some (e.set i (.val d)) else none := rfl
@[simp] theorem wrM_eq (i : Nat) (xs : List PyData) (e : En) : wrM i xs e = e.set i (keepK (e.gt i) xs) := rfl
@[simp] theorem keepK_io (a xs : List PyData) : keepK (.io a) xs = .io xs := rfl
@[simp] theorem keepK_own (a xs : List PyData) : keepK (.own a) xs = .own xs := rfl
@[simp] theorem rvd_v (d : PyData) : RV.d (.v d) = d := rfl
@[simp] theorem rvd_l (xs : List PyData) : RV.d (.l xs) = .list xs := rfl
@[simp] theorem oneI_i (i : Int) : oneI (.v (.int i)) = some (some i) := rfl
@[simp] theorem Olk_e (x : E) : O.lk (.e x) = [] := rfl
@[simp] theorem Olk_b (i : Nat) : O.lk (.b i) = [i] := rfl
@[simp] theorem Itlk_seq (o : O) : It.lk (.seq o) = o.lk := rfl
@[simp] theorem Itlk_enum (o : O) : It.lk (.enum o) = o.lk := rfl
@[simp] theorem Itlk_zip (a b : O) : It.lk (.zip a b) = a.lk ++ b.lk := rfl
@[simp] theorem Itlk_zip3 (a b c : O) : It.lk (.zip3 a b c) = a.lk ++ (b.lk ++ c.lk) := rfl
@[simp] theorem Itlk_r1 (a : E) : It.lk (.r1 a) = [] := rfl
@[simp] theorem Itlk_r2 (a b : E) : It.lk (.r2 a b) = [] := rfl
@[simp] theorem Itlk_r3 (a b c : E) : It.lk (.r3 a b c) = [] := rfl
@[simp] theorem retA_nil (e : En) : retA [] e = [] := by cases e <;> rfl
@[simp] theorem retA_val (d : PyData) (r : List Slot) (s : Slot) (e : En) : retA (.val d :: r) (s :: e) = .val d :: retA r e := rfl
@[simp] theorem retA_io (d : List PyData) (r : List Slot) (s : Slot) (e : En) : retA (.io d :: r) (s :: e) = s :: retA r e := rfl
@[simp] theorem strOf_s (s : Str) : strOf (.str s) = some s := rfl
/-- what follows a statement -/
def sqE (ft : FT) (gl : List PyData) (fuel : Nat) (ss : Ss) : SOut → SOut
  | .nx e => exSs ft gl fuel ss e
  | o => o
section
variable (ft : FT) (gl : List PyData) (fuel : Nat) (env : En)
@[simp] theorem sqE_nx (ss : Ss) (e : En) : sqE ft gl fuel ss (.nx e) = exSs ft gl fuel ss e := rfl
@[simp] theorem sqE_ret (ss : Ss) (r : RV) (e : En) : sqE ft gl fuel ss (.ret r e) = .ret r e := rfl
@[simp] theorem sqE_brk (ss : Ss) (e : En) : sqE ft gl fuel ss (.brk e) = .brk e := rfl
@[simp] theorem sqE_exc (ss : Ss) (c : Nat) (s : Str) (e : En) : sqE ft gl fuel ss (.exc c s e) = .exc c s e := rfl
@[simp] theorem sqE_ite (ss : Ss) (c : Prop) [Decidable c] (x y : SOut) : sqE ft gl fuel ss (if c then x else y) = if c then sqE ft gl fuel ss x else sqE ft gl fuel ss y := by split <;> rfl
@[simp] theorem ev_var (i : Nat) : evE ft gl (.var i) env = rV i env (env.gt i) := by simp only [evE]; exact rdV_eq i env
@[simp] theorem ev_none : evE ft gl .none env = .ok (.v .none) env := by simp only [evE]
@[simp] theorem ev_bool (b : Bool) : evE ft gl (.bool b) env = .ok (.v (.bool b)) env := by simp only [evE]
@[simp] theorem ev_int (i : Int) : evE ft gl (.int i) env = .ok (.v (.int i)) env := by simp only [evE]
@[simp] theorem ev_str (s : Str) : evE ft gl (.str s) env = .ok (.v (.str s)) env := by simp only [evE]
@[simp] theorem ev_glob (k : Nat) : evE ft gl (.glob k) env = .lift ((gl[k]?).map .v) env := by simp only [evE]
@[simp] theorem ev_op1_b (o : Op1) (i : Nat) : evE ft gl (.op1 o (.b i)) env = .lift ((rdB i env).bind (sem1 o)) env := by
  simp only [evE, evO, rsO]
  cases h : rdB i env <;> simp [Out.lift, Out.bind, h]
@[simp] theorem ev_op1_e (o : Op1) (x : E) : evE ft gl (.op1 o (.e x)) env = o1K o (evE ft gl x env) := by
  simp only [evE, evO, rsO]
  cases evE ft gl x env <;> rfl
@[simp] theorem ev_op2_bb (o : Op2) (i j : Nat) : evE ft gl (.op2 o (.b i) (.b j)) env = .lift ((rdB i env).bind fun u => (rdB j env).bind fun v => sem2 o u v) env := by
  simp only [evE, evO, rsO]
  cases h1 : rdB i env with
  | none => rfl
  | some u =>
    cases h2 : rdB j env with
    | none => simp [Out.lift, Out.bind, h1, h2]
    | some v => simp [Out.lift, Out.bind, h1, h2]
@[simp] theorem ev_op2_be (o : Op2) (i : Nat) (y : E) : evE ft gl (.op2 o (.b i) (.e y)) env = if (rdB i env).isSome = true then o2C o i (evE ft gl y env) else .bad := by
  simp only [evE, evO, rsO]
  cases h1 : rdB i env with
  | none => rfl
  | some u =>
    simp only [Option.map_some, Out.lift, Out.bind, Option.isSome, if_true]
    cases evE ft gl y env with
    | ok r e => cases h : rdB i e <;> simp [Out.lift, Out.bind, h, o2C]
    | exc => rfl
    | bad => rfl
@[simp] theorem ev_op2_eb (o : Op2) (x : E) (j : Nat) : evE ft gl (.op2 o (.e x) (.b j)) env = o2D o j (evE ft gl x env) := by
  simp only [evE, evO, rsO]
  cases evE ft gl x env with
  | ok r e =>
    simp only [Out.bind, o2D]
    cases h : rdB j e <;> simp [Out.lift, h]
  | exc => rfl
  | bad => rfl
@[simp] theorem ev_op2_ee (o : Op2) (x y : E) : evE ft gl (.op2 o (.e x) (.e y)) env = o2A ft gl o y (evE ft gl x env) := by
  simp only [evE, evO, rsO]
  cases evE ft gl x env with
  | ok r e =>
    simp only [Out.bind, o2A]
    cases evE ft gl y e <;> rfl
  | exc => rfl
  | bad => rfl
@[simp] theorem ev_chain (o1 o2 : Op2) (a b c : E) : evE ft gl (.chain o1 o2 a b c) env = chA ft gl o1 o2 b c (evE ft gl a env) := by
  simp only [evE]
  cases evE ft gl a env with
  | ok x e1 =>
    simp only [Out.bind, chA]
    cases evE ft gl b e1 with
    | ok y e2 =>
      simp only [chB]
      cases h : sem2 o1 x.d y.d with
      | none => rfl
      | some r =>
        cases r with
        | l xs => rfl
        | v d =>
          cases d with
          | bool b =>
            cases b
            · rfl
            · simp only [chC, onB]
              cases evE ft gl c e2 <;> rfl
          | _ => rfl
    | exc => rfl
    | bad => rfl
  | exc => rfl
  | bad => rfl
@[simp] theorem ev_and (a b : E) : evE ft gl (.andE a b) env = anK ft gl b (evE ft gl a env) := by
  simp only [evE]
  cases evE ft gl a env <;> rfl
@[simp] theorem ev_or (a b : E) : evE ft gl (.orE a b) env = orK ft gl b (evE ft gl a env) := by
  simp only [evE]
  cases evE ft gl a env with
  | ok r e =>
    simp only [Out.bind, orK]
    cases r.d with
    | bool b => cases b <;> rfl
    | _ => rfl
  | exc => rfl
  | bad => rfl
@[simp] theorem tst_eq (o : Out RV) : tst o = tsK o := by cases o <;> rfl
@[simp] theorem ev_not (a : E) : evE ft gl (.notE a) env = noK (tsK (evE ft gl a env)) := by
  simp only [evE]
  rw [tst_eq]
  cases tsK (evE ft gl a env) <;> rfl
@[simp] theorem ev_ifE (c a b : E) : evE ft gl (.ifE c a b) env = ifK ft gl a b (tsK (evE ft gl c env)) := by
  simp only [evE]
  rw [tst_eq]
  cases tsK (evE ft gl c env) <;> rfl
@[simp] theorem ev_tup (es : Es) : evE ft gl (.tup es) env = tuK (evEs ft gl es env) := by
  simp only [evE]
  cases evEs ft gl es env <;> rfl
@[simp] theorem ev_lst (es : Es) : evE ft gl (.lst es) env = lsK (evEs ft gl es env) := by
  simp only [evE]
  cases evEs ft gl es env <;> rfl
@[simp] theorem ev_sl_b (i : Nat) (lo hi : SE) : evE ft gl (.sl (.b i) lo hi) env = if (rdB i env).isSome = true then slA ft gl i hi (evS ft gl lo env) else .bad := by
  simp only [evE, evO, rsO]
  cases h : rdB i env with
  | none => rfl
  | some u =>
    simp only [Option.map_some, Out.lift, Out.bind, Option.isSome, if_true]
    cases evS ft gl lo env with
    | ok l e =>
      simp only [slA]
      cases evS ft gl hi e <;> rfl
    | exc => rfl
    | bad => rfl
@[simp] theorem ev_sl_e (x : E) (lo hi : SE) : evE ft gl (.sl (.e x) lo hi) env = slC ft gl lo hi (evE ft gl x env) := by
  simp only [evE, evO, rsO]
  cases evE ft gl x env with
  | ok r e =>
    simp only [Out.bind, slC]
    cases evS ft gl lo e with
    | ok l e1 =>
      simp only [slD]
      cases evS ft gl hi e1 <;> rfl
    | exc => rfl
    | bad => rfl
  | exc => rfl
  | bad => rfl
@[simp] theorem ev_call (f : Nat) (es : Es) : evE ft gl (.call f es) env = caK ft f (evEs ft gl es env) := by
  simp only [evE]
  cases evEs ft gl es env with
  | ok ds e =>
    simp only [Out.bind, caK]
    unfold callV fo
    cases ft f (ds.map .val) <;> rfl
  | exc => rfl
  | bad => rfl
@[simp] theorem ev_callIo (f i : Nat) (es : Es) : evE ft gl (.callIo f i es) env = if (rdM i env).isNone = true then .bad else ciK ft f i (evEs ft gl es env) := by
  simp only [evE]
  cases evEs ft gl es env with
  | ok ds e =>
    simp only [Out.bind, ciK]
    unfold callI
    cases rdM i e with
    | none => rfl
    | some xs =>
      simp only [ciL]
      cases h : ft f (.io xs :: ds.map .val) with
      | ok r a =>
        cases a with
        | nil => rfl
        | cons s a => cases s <;> rfl
      | exc => rfl
      | bad => rfl
  | exc => rfl
  | bad => rfl
@[simp] theorem ev_callK (f : Nat) (perm : List Nat) (es : Es) : evE ft gl (.callK f perm es) env = ckK ft f perm (evEs ft gl es env) := by
  simp only [evE]
  cases evEs ft gl es env with
  | ok ds e =>
    simp only [Out.bind, ckK]
    unfold permD
    split
    · cases perm.mapM fun j => ds[j]? with
      | none => rfl
      | some vs =>
        simp only [ckL]
        unfold callV fo
        cases ft f (vs.map .val) <;> rfl
    · rfl
  | exc => rfl
  | bad => rfl
@[simp] theorem ev_comp (own : List Nat) (p : Pat) (it : It) (hc : Bool) (c e : E) : evE ft gl (.comp own p it hc c e) env = cpK ft gl own p it.lk hc c e (evIt ft gl it env) := by
  simp only [evE]
  cases evIt ft gl it env <;> rfl
@[simp] theorem ev_pop (i : Nat) (a : E) : evE ft gl (.pop i a) env = if (rdM i env).isNone = true then .bad else poK i (evE ft gl a env) := by
  simp only [evE]
  cases evE ft gl a env <;> rfl
@[simp] theorem ev_lenSet_b (i : Nat) : evE ft gl (.lenSet (.b i)) env = .lift ((rdB i env).bind lenSetD) env := by
  simp only [evE, evO, rsO]
  cases h : rdB i env <;> simp [Out.lift, Out.bind, h]
@[simp] theorem ev_lenSet_e (x : E) : evE ft gl (.lenSet (.e x)) env = lzK (evE ft gl x env) := by
  simp only [evE, evO, rsO]
  cases evE ft gl x env <;> rfl
@[simp] theorem ev_listR (it : It) : evE ft gl (.listR it) env = lsK (evIt ft gl it env) := by
  simp only [evE]
  cases evIt ft gl it env <;> rfl
def ltK  : Out (List PyData) → Out RV
  | .ok ds e => if szOk ds.length = true then .ok (.v (.tuple ds)) e else .bad
  | .exc c s e => .exc c s e
  | .bad => .bad
@[simp] theorem ltK_ok  (ds : List PyData) (e : En) : ltK  (.ok ds e) = if szOk ds.length = true then .ok (.v (.tuple ds)) e else .bad := rfl
@[simp] theorem ltK_exc  (c__ : Nat) (s__ : Str) (e__ : En) : ltK  (.exc c__ s__ e__) = .exc c__ s__ e__ := rfl
@[simp] theorem ltK_ite  (c__ : Prop) [Decidable c__] (x__ y__ : Out (List PyData)) : ltK  (if c__ then x__ else y__) = if c__ then ltK  x__ else ltK  y__ := by split <;> rfl
def meC (tp : Bool) (o : Op2) (i : Nat) : Out (RV) → Out RV
  | .ok s e => .lift ((rdB i e).bind fun u => semM tp o u s.d) e
  | .exc c s e => .exc c s e
  | .bad => .bad
@[simp] theorem meC_ok (tp : Bool) (o : Op2) (i : Nat) (s : RV) (e : En) : meC tp o i (.ok s e) = .lift ((rdB i e).bind fun u => semM tp o u s.d) e := rfl
@[simp] theorem meC_exc (tp : Bool) (o : Op2) (i : Nat) (c__ : Nat) (s__ : Str) (e__ : En) : meC tp o i (.exc c__ s__ e__) = .exc c__ s__ e__ := rfl
@[simp] theorem meC_ite (tp : Bool) (o : Op2) (i : Nat) (c__ : Prop) [Decidable c__] (x__ y__ : Out (RV)) : meC tp o i (if c__ then x__ else y__) = if c__ then meC tp o i x__ else meC tp o i y__ := by split <;> rfl
def meR (tp : Bool) (o : Op2) (d : PyData) : Out (RV) → Out RV
  | .ok s e => .lift (semM tp o d s.d) e
  | .exc c s e => .exc c s e
  | .bad => .bad
@[simp] theorem meR_ok (tp : Bool) (o : Op2) (d : PyData) (s : RV) (e : En) : meR tp o d (.ok s e) = .lift (semM tp o d s.d) e := rfl
@[simp] theorem meR_exc (tp : Bool) (o : Op2) (d : PyData) (c__ : Nat) (s__ : Str) (e__ : En) : meR tp o d (.exc c__ s__ e__) = .exc c__ s__ e__ := rfl
@[simp] theorem meR_ite (tp : Bool) (o : Op2) (d : PyData) (c__ : Prop) [Decidable c__] (x__ y__ : Out (RV)) : meR tp o d (if c__ then x__ else y__) = if c__ then meR tp o d x__ else meR tp o d y__ := by split <;> rfl
def meQ (o : Op2) (i : Nat) (t : Out RV) : Option PyData → Out RV
  | some (.list _) => meC false o i t
  | some (.tuple _) => meC true o i t
  | _ => .bad
@[simp] theorem meQ_lst (o : Op2) (i : Nat) (t : Out RV) (xs : List PyData) : meQ o i t (some (.list xs)) = meC false o i t := rfl
@[simp] theorem meQ_tup (o : Op2) (i : Nat) (t : Out RV) (xs : List PyData) : meQ o i t (some (.tuple xs)) = meC true o i t := rfl
def meS (o : Op2) (v : PyData) : PyData → Option RV
  | .list xs => sem2 o (.list xs) v
  | .tuple xs => sem2 o (.tuple xs) v
  | _ => none
@[simp] theorem meS_lst (o : Op2) (v : PyData) (xs : List PyData) : meS o v (.list xs) = sem2 o (.list xs) v := rfl
@[simp] theorem meS_tup (o : Op2) (v : PyData) (xs : List PyData) : meS o v (.tuple xs) = sem2 o (.tuple xs) v := rfl
def meT (o : Op2) (t : Out RV) : PyData → Out RV
  | .list xs => meR false o (.list xs) t
  | .tuple xs => meR true o (.tuple xs) t
  | _ => .bad
@[simp] theorem meT_lst (o : Op2) (t : Out RV) (xs : List PyData) : meT o t (.list xs) = meR false o (.list xs) t := rfl
@[simp] theorem meT_tup (o : Op2) (t : Out RV) (xs : List PyData) : meT o t (.tuple xs) = meR true o (.tuple xs) t := rfl
def meE (ft : FT) (gl : List PyData) (o : Op2) (y : E) : Out (RV) → Out RV
  | .ok r e => meT o (evE ft gl y e) r.d
  | .exc c s e => .exc c s e
  | .bad => .bad
@[simp] theorem meE_ok (ft : FT) (gl : List PyData) (o : Op2) (y : E) (r : RV) (e : En) : meE ft gl o y (.ok r e) = meT o (evE ft gl y e) r.d := rfl
@[simp] theorem meE_exc (ft : FT) (gl : List PyData) (o : Op2) (y : E) (c__ : Nat) (s__ : Str) (e__ : En) : meE ft gl o y (.exc c__ s__ e__) = .exc c__ s__ e__ := rfl
@[simp] theorem meE_ite (ft : FT) (gl : List PyData) (o : Op2) (y : E) (c__ : Prop) [Decidable c__] (x__ y__ : Out (RV)) : meE ft gl o y (if c__ then x__ else y__) = if c__ then meE ft gl o y x__ else meE ft gl o y y__ := by split <;> rfl
def meF (o : Op2) (j : Nat) : Out (RV) → Out RV
  | .ok r e => .lift ((rdB j e).bind fun v => meS o v r.d) e
  | .exc c s e => .exc c s e
  | .bad => .bad
@[simp] theorem meF_ok (o : Op2) (j : Nat) (r : RV) (e : En) : meF o j (.ok r e) = .lift ((rdB j e).bind fun v => meS o v r.d) e := rfl
@[simp] theorem meF_exc (o : Op2) (j : Nat) (c__ : Nat) (s__ : Str) (e__ : En) : meF o j (.exc c__ s__ e__) = .exc c__ s__ e__ := rfl
@[simp] theorem meF_ite (o : Op2) (j : Nat) (c__ : Prop) [Decidable c__] (x__ y__ : Out (RV)) : meF o j (if c__ then x__ else y__) = if c__ then meF o j x__ else meF o j y__ := by split <;> rfl
@[simp] theorem ev_tupR (it : It) : evE ft gl (.tupR it) env = ltK (evIt ft gl it env) := by
  simp only [evE]
  cases evIt ft gl it env <;> rfl
@[simp] theorem ev_meth_be (o : Op2) (i : Nat) (y : E) : evE ft gl (.meth o (.b i) (.e y)) env = meQ o i (evE ft gl y env) (rdB i env) := by
  simp only [evE, evO, rsO]
  cases h : rdB i env with
  | none => rfl
  | some d => cases d <;> first | rfl | (simp only [Out.lift, Out.bind, Option.map_some, h, meQ]; done) | (simp only [Out.lift, Out.bind, Option.map_some, h, meQ]; cases evE ft gl y env <;> rfl)
@[simp] theorem ev_meth_bb (o : Op2) (i j : Nat) : evE ft gl (.meth o (.b i) (.b j)) env = .lift ((rdB i env).bind fun u => (rdB j env).bind fun v => meS o v u) env := by
  simp only [evE, evO, rsO]
  cases h : rdB i env with
  | none => rfl
  | some d => cases d <;> cases h2 : rdB j env <;> simp only [Out.lift, Out.bind, Option.map_some, Option.map_none, Option.bind_some, Option.bind_none, h, h2, meS] <;> rfl
@[simp] theorem ev_meth_ee (o : Op2) (x y : E) : evE ft gl (.meth o (.e x) (.e y)) env = meE ft gl o y (evE ft gl x env) := by
  simp only [evE, evO, rsO]
  cases evE ft gl x env with
  | ok r e1 =>
    simp only [Out.bind, Option.map_some, meE]
    cases h : r.d <;> first | rfl | (simp only [meT]; cases evE ft gl y e1 <;> rfl)
  | exc => rfl
  | bad => rfl
@[simp] theorem ev_meth_eb (o : Op2) (x : E) (j : Nat) : evE ft gl (.meth o (.e x) (.b j)) env = meF o j (evE ft gl x env) := by
  simp only [evE, evO, rsO]
  cases evE ft gl x env with
  | ok r e1 =>
    simp only [Out.bind, Option.map_some, meF]
    cases h : r.d <;> cases h2 : rdB j e1 <;> simp only [Out.lift, Out.bind, Option.map_some, Option.map_none, Option.bind_some, Option.bind_none, h2, meS] <;> rfl
  | exc => rfl
  | bad => rfl
@[simp] theorem evS_no : evS ft gl .no env = .ok Option.none env := by simp only [evS]
@[simp] theorem evS_so (e : E) : evS ft gl (.so e) env = soK (evE ft gl e env) := by
  simp only [evS]
  cases evE ft gl e env <;> rfl
@[simp] theorem evEs_nil : evEs ft gl .nil env = .ok [] env := by simp only [evEs]
@[simp] theorem evEs_cons (e : E) (es : Es) : evEs ft gl (.cons e es) env = esA ft gl es (evE ft gl e env) := by
  simp only [evEs]
  cases evE ft gl e env with
  | ok r e1 =>
    simp only [Out.bind, esA]
    cases evEs ft gl es e1 <;> rfl
  | exc => rfl
  | bad => rfl
@[simp] theorem evIt_r1 (a : E) : evIt ft gl (.r1 a) env = r1K (evE ft gl a env) := by
  simp only [evIt]
  cases evE ft gl a env <;> rfl
@[simp] theorem evIt_r2 (a b : E) : evIt ft gl (.r2 a b) env = r2A ft gl b (evE ft gl a env) := by
  simp only [evIt]
  cases evE ft gl a env with
  | ok r e1 =>
    simp only [Out.bind, r2A]
    cases evE ft gl b e1 <;> rfl
  | exc => rfl
  | bad => rfl
@[simp] theorem evIt_r3 (a b c : E) : evIt ft gl (.r3 a b c) env = r3A ft gl b c (evE ft gl a env) := by
  simp only [evIt]
  cases evE ft gl a env with
  | ok r e1 =>
    simp only [Out.bind, r3A]
    cases evE ft gl b e1 with
    | ok s e2 =>
      simp only [r3B]
      cases evE ft gl c e2 <;> rfl
    | exc => rfl
    | bad => rfl
  | exc => rfl
  | bad => rfl
@[simp] theorem evIt_seq_b (i : Nat) : evIt ft gl (.seq (.b i)) env = .lift ((rdB i env).bind seqOf) env := by
  simp only [evIt, evO, rsO]
  cases h : rdB i env <;> simp [Out.lift, Out.bind, h]
@[simp] theorem evIt_seq_e (x : E) : evIt ft gl (.seq (.e x)) env = sqK (evE ft gl x env) := by
  simp only [evIt, evO, rsO]
  cases evE ft gl x env <;> rfl
@[simp] theorem evIt_enum_b (i : Nat) : evIt ft gl (.enum (.b i)) env = .lift (((rdB i env).bind seqOf).map enumD) env := by
  simp only [evIt, evO, rsO]
  cases h : rdB i env <;> simp [Out.lift, Out.bind, h]
@[simp] theorem evIt_enum_e (x : E) : evIt ft gl (.enum (.e x)) env = enK (evE ft gl x env) := by
  simp only [evIt, evO, rsO]
  cases evE ft gl x env <;> rfl
@[simp] theorem evIt_zip_bb (i j : Nat) : evIt ft gl (.zip (.b i) (.b j)) env = .lift (((rdB i env).bind seqOf).bind fun xs => ((rdB j env).bind seqOf).map fun ys => zipD xs ys) env := by
  simp only [evIt, evO, rsO]
  cases h1 : rdB i env with
  | none => rfl
  | some u =>
    cases h2 : rdB j env with
    | none => simp [Out.lift, Out.bind, h1, h2]
    | some v => simp [Out.lift, Out.bind, h1, h2]
@[simp] theorem evIt_zip_be (i : Nat) (y : E) : evIt ft gl (.zip (.b i) (.e y)) env = if (rdB i env).isSome = true then zpC i (evE ft gl y env) else .bad := by
  simp only [evIt, evO, rsO]
  cases h1 : rdB i env with
  | none => rfl
  | some u =>
    simp only [Option.map_some, Out.lift, Out.bind, Option.isSome, if_true]
    cases evE ft gl y env <;> rfl
@[simp] theorem evIt_zip_eb (x : E) (j : Nat) : evIt ft gl (.zip (.e x) (.b j)) env = zpD j (evE ft gl x env) := by
  simp only [evIt, evO, rsO]
  cases evE ft gl x env with
  | ok r e =>
    simp only [Out.bind, zpD]
    cases h : rdB j e <;> simp [Out.lift, h]
  | exc => rfl
  | bad => rfl
@[simp] theorem evIt_zip_ee (x y : E) : evIt ft gl (.zip (.e x) (.e y)) env = zpA ft gl y (evE ft gl x env) := by
  simp only [evIt, evO, rsO]
  cases evE ft gl x env with
  | ok r e =>
    simp only [Out.bind, zpA]
    cases evE ft gl y e <;> rfl
  | exc => rfl
  | bad => rfl
def toK (c : Nat) : Out RV → Out RV
  | .ok r e => .ok (.v (.str (Str.ofString ""))) e
  | .exc c' s e => if c' = c then .ok (.v (.str s)) e else .bad
  | .bad => .bad
@[simp] theorem toK_ok (c : Nat) (r : RV) (e : En) : toK c (.ok r e) = .ok (.v (.str (Str.ofString ""))) e := rfl
@[simp] theorem toK_exc (c c' : Nat) (s : Str) (e : En) : toK c (.exc c' s e) = if c' = c then .ok (.v (.str s)) e else .bad := rfl
@[simp] theorem ev_told0 (c : Nat) (e : E) : evE ft gl (.told 0 c e) env = toK c (evE ft gl e env) := by
  simp only [evE]
  cases evE ft gl e env <;> simp [toK]
/-- one item of a comprehension -/
@[simp] def compS (own : List Nat) (p : Pat) (hc : Bool) (c e : E) (x : PyData) (en : En) : Out (Option PyData) := csA ft gl own hc c e (bindP p x en)
/-- one turn of a loop -/
@[simp] def forS1 (p : Pat) (w : List Nat) (body : Ss) (x : PyData) (en : En) : SOut := f1A ft gl fuel w body (bindP p x en)
/-! ### statements -/
@[simp] theorem ex_nil : exSs ft gl fuel .nil env = .nx env := by simp only [exSs]
@[simp] theorem ex_cons (s : S) (ss : Ss) : exSs ft gl fuel (.cons s ss) env = sqE ft gl fuel ss (exS ft gl fuel s env) := by
  simp only [exSs]
  cases exS ft gl fuel s env <;> rfl
@[simp] theorem ex_expr (e : E) : exS ft gl fuel (.expr e) env = exK (evE ft gl e env) := by
  simp only [exS]
  cases evE ft gl e env <;> rfl
@[simp] theorem ex_ret (e : E) : exS ft gl fuel (.ret e) env = reK (evE ft gl e env) := by
  simp only [exS]
  cases evE ft gl e env <;> rfl
@[simp] theorem ex_retV (i : Nat) : exS ft gl fuel (.retV i) env = retVS i env (env.gt i) := by
  simp only [exS]
  unfold retVS
  cases env.gt i <;> rfl
@[simp] theorem ex_retN : exS ft gl fuel .retN env = .ret (.v .none) env := by simp only [exS]
@[simp] theorem ex_set (m : Bool) (i : Nat) (e : E) : exS ft gl fuel (.set m i e) env = seK m i (evE ft gl e env) := by
  simp only [exS]
  cases evE ft gl e env <;> rfl
@[simp] theorem ex_setT (ms : List (Bool × Nat)) (es : Es) : exS ft gl fuel (.setT ms es) env = stK ms (evRs ft gl (ms.map (·.1)) es env) := by
  simp only [exS]
  cases evRs ft gl (ms.map (·.1)) es env <;> rfl
@[simp] theorem evRs_nil (ms : List Bool) : evRs ft gl ms .nil env = .ok [] env := by cases ms <;> simp only [evRs]
@[simp] theorem evRs_cons (m : Bool) (ms : List Bool) (e : E) (es : Es) : evRs ft gl (m :: ms) (.cons e es) env = rsA ft gl m ms es (evE ft gl e env) := by
  simp only [evRs]
  cases evE ft gl e env with
  | ok r e1 =>
    simp only [Out.bind, rsA]
    cases evRs ft gl ms es e1 <;> rfl
  | exc => rfl
  | bad => rfl
@[simp] theorem ex_setP (p : Pat) (e : E) : exS ft gl fuel (.setP p e) env = sPK p (evE ft gl e env) := by
  simp only [exS]
  cases evE ft gl e env <;> rfl
@[simp] theorem ex_setI (i : Nat) (ix e : E) : exS ft gl fuel (.setI i ix e) env = if (rdM i env).isNone = true then .bad else siA ft gl i ix (evE ft gl e env) := by
  simp only [exS]
  cases evE ft gl e env with
  | ok r e1 =>
    simp only [SOut.of, siA]
    cases evE ft gl ix e1 <;> rfl
  | exc => rfl
  | bad => rfl
@[simp] theorem ex_aug (i : Nat) (e : E) : exS ft gl fuel (.aug i e) env = if isV (env.gt i) = true then auK i (env.gt i) (evE ft gl e env) else .bad := by
  simp only [exS]
  cases h : env.gt i with
  | val x =>
    simp only [isV, if_true]
    cases evE ft gl e env with
    | ok r e1 =>
      simp only [SOut.of, auK]
      unfold augS
      cases x <;> cases r.d <;> rfl
    | exc => rfl
    | bad => rfl
  | _ => rfl
@[simp] theorem ex_app (i : Nat) (e : E) : exS ft gl fuel (.app i e) env = if (rdM i env).isNone = true then .bad else apK i (evE ft gl e env) := by
  simp only [exS]
  cases evE ft gl e env with
  | ok r e1 =>
    simp only [SOut.of, apK]
    cases rdM i e1 <;> rfl
  | exc => rfl
  | bad => rfl
@[simp] theorem ex_if (c : E) (a b : Ss) : exS ft gl fuel (.ifS c a b) env = isK ft gl fuel a b (tsK (evE ft gl c env)) := by
  simp only [exS]
  rw [tst_eq]
  cases tsK (evE ft gl c env) <;> rfl
@[simp] theorem ex_for (p : Pat) (it : It) (body : Ss) (w : List Nat) : exS ft gl fuel (.forS p it body w) env = foK ft gl fuel p w body (evIt ft gl it env) := by
  simp only [exS]
  cases evIt ft gl it env <;> rfl
@[simp] theorem ex_while (c : E) (body : Ss) (w : List Nat) : exS ft gl fuel (.whileS c body w) env = whileE ft gl fuel w c body fuel (forgE env w) := by
  simp only [exS]
  rfl
@[simp] theorem ex_brk : exS ft gl fuel .brk env = .brk env := by simp only [exS]
@[simp] theorem ex_raise (c : Nat) (e : E) : exS ft gl fuel (.raiseS c e) env = raK c (evE ft gl e env) := by
  simp only [exS]
  cases evE ft gl e env with
  | ok r e1 =>
    simp only [SOut.of, raK]
    cases strOf r.d <;> rfl
  | exc => rfl
  | bad => rfl
end
/-! ### data -/
theorem eqv_int (i j : Int) : PyData.eqv (.int i) (.int j) = decide (i = j) := by
  rw [Bool.eq_iff_iff]; simp [PyData.eqv]
theorem eqv_str (i j : Str) : PyData.eqv (.str i) (.str j) = decide (i = j) := by
  rw [Bool.eq_iff_iff]; simp [PyData.eqv]
theorem eqv_nn : PyData.eqv .none .none = true := by simp [PyData.eqv]
theorem eqvAll_int : ∀ xs ys : List Int, PyData.eqvAll (xs.map .int) (ys.map .int) = decide (xs = ys)
  | [], [] => by simp [PyData.eqvAll]
  | [], _ :: _ => by simp [PyData.eqvAll]
  | _ :: _, [] => by simp [PyData.eqvAll]
  | x :: xs, y :: ys => by simp [PyData.eqvAll, eqvAll_int xs ys, eqv_int]
/-- a tuple of ints -/
def ti (xs : List Int) : PyData := .tuple (xs.map .int)
theorem eqv_ti (xs ys : List Int) : PyData.eqv (ti xs) (ti ys) = decide (xs = ys) := by
  simp [ti, PyData.eqv, eqvAll_int]
theorem eqvAll_ti : ∀ xs ys : List (List Int), PyData.eqvAll (xs.map ti) (ys.map ti) = decide (xs = ys)
  | [], [] => by simp [PyData.eqvAll]
  | [], _ :: _ => by simp [PyData.eqvAll]
  | _ :: _, [] => by simp [PyData.eqvAll]
  | x :: xs, y :: ys => by simp [PyData.eqvAll, eqvAll_ti xs ys, eqv_ti]
theorem any_int (xs : List Int) (i : Int) : ((xs.map PyData.int).any fun z => PyData.eqv z (.int i)) = decide (i ∈ xs) := by
  rw [Bool.eq_iff_iff]
  simp [eqv_int]
theorem any_ti (xs : List (List Int)) (i : List Int) : ((xs.map ti).any fun z => PyData.eqv z (ti i)) = decide (i ∈ xs) := by
  rw [Bool.eq_iff_iff]
  simp [eqv_ti]
theorem dep_int (i : Int) : (PyData.int i).depth = 0 := by simp [PyData.depth]
theorem depA_int : ∀ xs : List Int, PyData.depthAll (xs.map .int) ≤ 1
  | [] => by simp [PyData.depthAll]
  | x :: xs => by have := depA_int xs; simp [PyData.depthAll, PyData.depth]; omega
theorem flat_int (i : Int) : flatD (.int i) = true := by simp [flatD, PyData.depth]
theorem flat_none : flatD .none = true := by simp [flatD, PyData.depth]
theorem flat_str (s : Str) : flatD (.str s) = true := by simp [flatD, PyData.depth]
theorem flat_bool (s : Bool) : flatD (.bool s) = true := by simp [flatD, PyData.depth]
theorem flat_ti (xs : List Int) : flatD (ti xs) = true := by
  have := depA_int xs
  simp [flatD, ti, PyData.depth]; omega
theorem intsOf_map : ∀ xs : List Int, intsOf (xs.map .int) = some xs
  | [] => rfl
  | x :: xs => by simp [intsOf, intsOf_map xs]
theorem boolsOf_map : ∀ xs : List Bool, boolsOf (xs.map .bool) = some xs
  | [] => rfl
  | x :: xs => by simp [boolsOf, boolsOf_map xs]
end PL
namespace PL
open PySem
/-! ### the same by binds -/
theorem compS_old (ft : FT) (gl : List PyData) (own : List Nat) (p : Pat) (hc : Bool) (c e : E) (x : PyData) (en : En) : compS ft gl own p hc c e x en = (Out.lift (bindP p x en) en).bind fun e1 _ => (if hc = true then tst (evE ft gl c e1) else .ok true e1).bind fun k e2 => if k = true then (evE ft gl e e2).bind fun d e3 => .ok (some d.d) (wipeE e3 own) else .ok none (wipeE e2 own) := by
  unfold compS
  cases bindP p x en with
  | none => rfl
  | some e1 =>
    simp only [csA, Out.lift, Out.bind]
    cases (if hc = true then tst (evE ft gl c e1) else .ok true e1) with
    | ok k e2 =>
      simp only [csB]
      cases k with
      | true => cases evE ft gl e e2 <;> rfl
      | false => rfl
    | exc => rfl
    | bad => rfl
theorem forS1_old (ft : FT) (gl : List PyData) (fuel : Nat) (p : Pat) (w : List Nat) (body : Ss) (x : PyData) (en : En) : forS1 ft gl fuel p w body x en = (SOut.opt (bindP p x en)).seq fun e1 => fgO w (exSs ft gl fuel body e1) := by
  unfold forS1
  cases bindP p x en <;> rfl
/-! ### loops -/
section
variable {β σ : Type} {ft : FT} {gl : List PyData} {fuel : Nat}
/-- a comprehension that leaves its place alone -/
theorem comp_sim {own : List Nat} {pt : Pat} {hc : Bool} {c e : E} {en : En} (enc : β → PyData) (p : β → Bool) (g : β → PyData) : ∀ (ys : List β)
    (_ : ∀ y ∈ ys, compS ft gl own pt hc c e (enc y) en = .ok (if p y = true then some (g y) else none) en),
    compE ft gl own pt hc c e (ys.map enc) en = .ok ((ys.filter p).map g) en
  | [], _ => by simp [compE, compLoop]
  | y :: ys, h => by
    have h1 := h y List.mem_cons_self
    have ih := comp_sim enc p g ys fun z hz => h z (List.mem_cons_of_mem _ hz)
    unfold compE at ih ⊢
    rw [compS_old] at h1
    rw [List.map_cons, compLoop]
    cases hb : bindP pt (enc y) en with
    | none => rw [hb] at h1; cases h1
    | some e1 =>
      rw [hb] at h1
      simp only [Out.lift, Out.bind] at h1 ⊢
      cases hk : (if hc = true then tst (evE ft gl c e1) else .ok true e1) with
      | bad => rw [hk] at h1; cases h1
      | exc => rw [hk] at h1; cases h1
      | ok k e2 =>
        rw [hk] at h1
        cases k with
        | false =>
          simp only at h1 ⊢
          rw [if_neg (by decide)] at h1
          simp only [Out.ok.injEq] at h1
          rw [h1.2, ih]
          cases hp : p y with
          | true => rw [hp] at h1; simp at h1
          | false => simp [List.filter_cons, hp]
        | true =>
          simp only [if_true] at h1 ⊢
          cases hv : evE ft gl e e2 with
          | bad => rw [hv] at h1; cases h1
          | exc => rw [hv] at h1; cases h1
          | ok r e3 =>
            rw [hv] at h1
            simp only [Out.ok.injEq] at h1 ⊢
            rw [h1.2, ih]
            cases hp : p y with
            | false => rw [hp] at h1; simp at h1
            | true =>
              rw [hp] at h1
              simp only [if_true, Option.some.injEq] at h1
              simp [List.filter_cons, hp, h1.1]
/-- the same without a test -/
theorem comp_map {own : List Nat} {pt : Pat} {hc : Bool} {c e : E} {en : En} (enc : β → PyData) (g : β → PyData) (ys : List β)
    (h : ∀ y ∈ ys, compS ft gl own pt hc c e (enc y) en = .ok (some (g y)) en) : compE ft gl own pt hc c e (ys.map enc) en = .ok (ys.map g) en := by
  have := comp_sim (ft := ft) (gl := gl) (own := own) (pt := pt) (hc := hc) (c := c) (e := e) (en := en) enc (fun _ => true) g ys fun y hy => by rw [h y hy]; rfl
  rw [this, List.filter_eq_self.2 (fun _ _ => rfl)]
/-- a comprehension that carries a state -/
def mapS {γ : Type} (f : σ → β → γ × σ) : List β → σ → List γ × σ
  | [], s => ([], s)
  | y :: ys, s => ((f s y).1 :: (mapS f ys (f s y).2).1, (mapS f ys (f s y).2).2)
theorem comp_mapS {γ : Type} {own : List Nat} {pt : Pat} {c e : E} (st : σ → En) (I : List β → σ → Prop) (enc : β → PyData) (f : σ → β → γ × σ) (g : γ → PyData)
    (h : ∀ y ys s, I (y :: ys) s → I ys (f s y).2 ∧ compS ft gl own pt false c e (enc y) (st s) = .ok (some (g (f s y).1)) (st (f s y).2)) : ∀ (ys : List β) (s : σ) (_ : I ys s),
    compE ft gl own pt false c e (ys.map enc) (st s) = .ok ((mapS f ys s).1.map g) (st (mapS f ys s).2) ∧ I [] (mapS f ys s).2
  | [], s, i => by simp [compE, compLoop, mapS, i]
  | y :: ys, s, i => by
    obtain ⟨h0, h1⟩ := h y ys s i
    obtain ⟨ih, ih2⟩ := comp_mapS st I enc f g h ys (f s y).2 h0
    refine ⟨?_, ih2⟩
    unfold compE at ih ⊢
    rw [compS_old] at h1
    rw [List.map_cons, compLoop]
    cases hb : bindP pt (enc y) (st s) with
    | none => rw [hb] at h1; cases h1
    | some e1 =>
      rw [hb] at h1
      simp only [Out.lift, Out.bind] at h1 ⊢
      cases hv : evE ft gl e e1 with
      | bad => simp [hv] at h1
      | exc => simp [hv] at h1
      | ok r e3 =>
        simp [hv] at h1
        simp only [hv, Bool.false_eq_true, if_false, h1.2] at ih ⊢
        rw [ih]
        simp [mapS, h1.1]
/-- a loop as a fold -/
theorem for_fold {w : List Nat} {pt : Pat} {body : Ss} (enc : σ → En) (I : List β → σ → Prop) (eb : β → PyData) (step : σ → β → σ)
    (h : ∀ y ys s, I (y :: ys) s → I ys (step s y) ∧ forS1 ft gl fuel pt w body (eb y) (enc s) = .nx (enc (step s y))) : ∀ (ys : List β) (s : σ) (_ : I ys s),
    forE ft gl fuel pt w body (ys.map eb) (enc s) = .nx (enc (ys.foldl step s)) ∧ I [] (ys.foldl step s)
  | [], s, i => by simp [forE, forLoop, i]
  | y :: ys, s, i => by
    obtain ⟨h0, h1⟩ := h y ys s i
    obtain ⟨ih, ih2⟩ := for_fold enc I eb step h ys (step s y) h0
    refine ⟨?_, ih2⟩
    unfold forE at ih ⊢
    rw [forS1_old] at h1
    rw [List.map_cons, forLoop]
    cases hb : bindP pt (eb y) (enc s) with
    | none => rw [hb] at h1; cases h1
    | some e1 =>
      rw [hb] at h1
      simp only [SOut.opt, SOut.seq] at h1
      simp only [List.foldl_cons]
      cases hx : exSs ft gl fuel body e1 with
      | nx e2 => rw [hx] at h1; simp only [fgO, SOut.nx.injEq] at h1; simp only [hx, h1, ih]
      | _ => rw [hx] at h1; simp [fgO] at h1
/-- a loop that looks for something -/
theorem for_find {w : List Nat} {pt : Pat} {body : Ss} (en : En) (eb : β → PyData) (p : β → Bool) (f : β → RV) (g : β → En) : ∀ (ys : List β)
    (_ : ∀ y ∈ ys, forS1 ft gl fuel pt w body (eb y) en = if p y = true then .ret (f y) (g y) else .nx en),
    forE ft gl fuel pt w body (ys.map eb) en = match ys.find? p with
      | some y => .ret (f y) (g y)
      | none => .nx en
  | [], _ => by simp [forE, forLoop]
  | y :: ys, h => by
    have h1 := h y List.mem_cons_self
    have ih := for_find en eb p f g ys fun z hz => h z (List.mem_cons_of_mem _ hz)
    unfold forE at ih ⊢
    rw [forS1_old] at h1
    rw [List.map_cons, forLoop]
    cases hb : bindP pt (eb y) en with
    | none => rw [hb] at h1; cases hp : p y <;> (rw [hp] at h1; simp [SOut.opt, SOut.seq] at h1)
    | some e1 =>
      rw [hb] at h1
      simp only [SOut.opt, SOut.seq] at h1
      cases hp : p y with
      | true =>
        rw [hp] at h1
        simp only [if_true] at h1
        simp only [List.find?_cons, hp]
        cases hx : exSs ft gl fuel body e1 with
        | ret r e2 => rw [hx] at h1; simp only [fgO] at h1; simpa using h1
        | _ => rw [hx] at h1; simp [fgO] at h1
      | false =>
        rw [hp] at h1
        simp only [List.find?_cons, hp]
        cases hx : exSs ft gl fuel body e1 with
        | nx e2 => rw [hx] at h1; simp [fgO] at h1; simp only [h1]; exact ih
        | _ => rw [hx] at h1; simp [fgO] at h1
/-- a loop in which nothing is found and nothing stays -/
theorem for_skip {w : List Nat} {pt : Pat} {body : Ss} (en : En) (eb : β → PyData) (ys : List β)
    (h : ∀ y ∈ ys, forS1 ft gl fuel pt w body (eb y) en = .nx en) : forE ft gl fuel pt w body (ys.map eb) en = .nx en := by
  have := for_find (ft := ft) (gl := gl) (fuel := fuel) (w := w) (pt := pt) (body := body) en eb (fun _ => false) (fun _ => .v .none) (fun _ => en) ys fun y hy => by simpa using h y hy
  rw [this]
  have : ys.find? (fun _ => false) = none := by simp
  rw [this]
def runW (go : σ → Bool) (step : σ → σ) : Nat → σ → σ
  | 0, s => s
  | n + 1, s => if go s = true then runW go step n (step s) else s
/-- a while loop by a measure -/
theorem while_sim {w : List Nat} {c : E} {body : Ss} (enc : σ → En) (I : σ → Prop) (go : σ → Bool) (step : σ → σ) (m : σ → Nat)
    (hc : ∀ s, I s → tst (evE ft gl c (enc s)) = .ok (go s) (enc s))
    (hs : ∀ s, I s → go s = true → I (step s) ∧ m (step s) < m s ∧ fgO w (exSs ft gl fuel body (enc s)) = .nx (enc (step s))) : ∀ (k : Nat) (s : σ) (_ : I s) (_ : m s < k),
    whileE ft gl fuel w c body k (enc s) = .nx (enc (runW go step k s)) ∧ go (runW go step k s) = false ∧ I (runW go step k s)
  | 0, s, _, hm => by omega
  | n + 1, s, i, hm => by
    unfold whileE
    rw [whileLoop, hc s i]
    cases hg : go s with
    | false => simp [runW, hg, i]
    | true =>
      obtain ⟨h1, h2, h3⟩ := hs s i hg
      have := while_sim enc I go step m hc hs n (step s) h1 (by omega)
      unfold whileE at this
      cases hx : exSs ft gl fuel body (enc s) with
      | nx e2 =>
        rw [hx] at h3
        simp only [fgO, SOut.nx.injEq] at h3
        simp only [hx, h3, runW, hg, if_true]
        exact this
      | _ => rw [hx] at h3; simp [fgO] at h3
end
/-! ### ranges -/
theorem rngD0 (n : Nat) : rngD 0 n = (List.range n).map fun i : Nat => PyData.int (i : Int) := by
  unfold rngD
  simp
theorem rng1_eq {j : Int} (h : smallI j = true) : rng1 (.int j) = some ((List.range j.toNat).map fun i : Nat => PyData.int (i : Int)) := by
  simp only [rng1, h, if_true, rngD0]
theorem rng2_eq {i j : Int} (h1 : smallI i = true) (h2 : smallI j = true) : rng2 (.int i) (.int j) = some ((List.range (j - i).toNat).map fun k : Nat => PyData.int (i + (k : Int))) := by
  simp only [rng2, h1, h2, Bool.and_self, if_true, rngD]
theorem smI_of {i : Int} (h : -1000000 ≤ i ∧ i ≤ 1000000000000) : smallI i = true := by
  simp only [smallI, Bool.and_eq_true, decide_eq_true_eq]
  omega
theorem sz_of {n : Nat} (h : n ≤ 16777216) : szOk n = true := by simp [szOk, h]
theorem cut_from (xs : List PyData) (k : Nat) : cutD xs (some (k : Int)) none = xs.drop k := by
  unfold cutD
  rw [show HT.sIx xs.length 0 (some (k : Int)) = min k xs.length by simp [HT.sIx]; omega, show HT.sIx xs.length xs.length none = xs.length from rfl]
  rw [List.take_of_length_le (by simp)]
  by_cases h : k ≤ xs.length
  · rw [Nat.min_eq_left h]
  · rw [Nat.min_eq_right (by omega), List.drop_eq_nil_of_le (by omega), List.drop_eq_nil_of_le (by omega)]
theorem cut_to (xs : List PyData) (k : Nat) : cutD xs none (some (k : Int)) = xs.take k := by
  unfold cutD
  rw [show HT.sIx xs.length xs.length (some (k : Int)) = min k xs.length by simp [HT.sIx]; omega, show HT.sIx xs.length 0 none = 0 from rfl]
  simp
theorem zipD_map {α β : Type} (f : α → PyData) (g : β → PyData) (xs : List α) (ys : List β) : zipD (xs.map f) (ys.map g) = (xs.zip ys).map fun p => .tuple [f p.1, g p.2] := by
  unfold zipD
  rw [List.zipWith_map, List.zip, List.map_zipWith]
theorem intsOf_some : ∀ {xs : List PyData} {ns : List Int}, intsOf xs = some ns → xs = ns.map .int
  | [], ns, h => by cases h; rfl
  | x :: xs, ns, h => by
    cases x with
    | int i =>
      simp only [intsOf, Option.map_eq_some_iff] at h
      obtain ⟨ms, h1, rfl⟩ := h
      rw [intsOf_some h1]; rfl
    | _ => simp [intsOf] at h
theorem ix_nat {α : Type} (xs : List α) (k : Nat) (h : k < xs.length) : L2.atI xs (k : Int) = some xs[k] := by
  unfold L2.atI L2.ixN
  simp [h]
theorem ixN_nat (n k : Nat) (h : k < n) : L2.ixN n (k : Int) = some k := by
  unfold L2.ixN
  simp [h]
/-! ### loops by relations -/
section
variable {β γ σ : Type} {ft : FT} {gl : List PyData} {fuel : Nat}
theorem for_rel {w : List Nat} {pt : Pat} {body : Ss} (enc : σ → En) (I : List β → σ → Prop) (eb : β → PyData)
    (h : ∀ y ys s, I (y :: ys) s → ∃ s', I ys s' ∧ forS1 ft gl fuel pt w body (eb y) (enc s) = .nx (enc s')) : ∀ (ys : List β) (s : σ) (_ : I ys s),
    ∃ s', I [] s' ∧ forE ft gl fuel pt w body (ys.map eb) (enc s) = .nx (enc s')
  | [], s, i => ⟨s, i, by simp [forE, forLoop]⟩
  | y :: ys, s, i => by
    obtain ⟨s1, i1, h1⟩ := h y ys s i
    obtain ⟨s2, i2, ih⟩ := for_rel enc I eb h ys s1 i1
    refine ⟨s2, i2, ?_⟩
    unfold forE at ih ⊢
    rw [forS1_old] at h1
    rw [List.map_cons, forLoop]
    cases hb : bindP pt (eb y) (enc s) with
    | none => rw [hb] at h1; cases h1
    | some e1 =>
      rw [hb] at h1
      simp only [SOut.opt, SOut.seq] at h1
      cases hx : exSs ft gl fuel body e1 with
      | nx e2 => rw [hx] at h1; simp only [fgO, SOut.nx.injEq] at h1; simp only [hx, h1, ih]
      | _ => rw [hx] at h1; simp [fgO] at h1
theorem comp_rel {own : List Nat} {pt : Pat} {hc : Bool} {c e : E} (st : σ → En) (I : List β → List γ → σ → Prop) (enc : β → PyData) (g : γ → PyData)
    (h : ∀ y ys zs s, I (y :: ys) zs s → (∃ z s', I ys (zs ++ [z]) s' ∧ compS ft gl own pt hc c e (enc y) (st s) = .ok (some (g z)) (st s')) ∨ ∃ s', I ys zs s' ∧ compS ft gl own pt hc c e (enc y) (st s) = .ok none (st s')) : ∀ (ys : List β) (zs : List γ) (s : σ) (_ : I ys zs s),
    ∃ ws s', I [] (zs ++ ws) s' ∧ compE ft gl own pt hc c e (ys.map enc) (st s) = .ok (ws.map g) (st s')
  | [], zs, s, i => ⟨[], s, by simpa using i, by simp [compE, compLoop]⟩
  | y :: ys, zs, s, i => by
    have hh := h y ys zs s i
    have go : ∀ (o : Option PyData) (s1 : σ), compS ft gl own pt hc c e (enc y) (st s) = .ok o (st s1) → ∀ (ws : List γ) (s2 : σ), compE ft gl own pt hc c e (ys.map enc) (st s1) = .ok (ws.map g) (st s2) → compE ft gl own pt hc c e ((y :: ys).map enc) (st s) = .ok ((match o with | some d => d :: ws.map g | none => ws.map g)) (st s2) := by
      intro o s1 h1 ws s2 ih
      unfold compE at ih ⊢
      rw [compS_old] at h1
      rw [List.map_cons, compLoop]
      cases hb : bindP pt (enc y) (st s) with
      | none => rw [hb] at h1; cases h1
      | some e1 =>
        rw [hb] at h1
        simp only [Out.lift, Out.bind] at h1 ⊢
        cases hk : (if hc = true then tst (evE ft gl c e1) else .ok true e1) with
        | bad => rw [hk] at h1; cases h1
        | exc => rw [hk] at h1; cases h1
        | ok k e2 =>
          rw [hk] at h1
          cases k with
          | false =>
            simp only at h1 ⊢
            rw [if_neg (by decide)] at h1
            simp only [Out.ok.injEq] at h1
            rw [h1.2, ih, ← h1.1]
          | true =>
            simp only [if_true] at h1 ⊢
            cases hv : evE ft gl e e2 with
            | bad => rw [hv] at h1; cases h1
            | exc => rw [hv] at h1; cases h1
            | ok r e3 =>
              rw [hv] at h1
              simp only [Out.ok.injEq] at h1 ⊢
              rw [h1.2, ih, ← h1.1]
    rcases hh with ⟨z, s1, i1, h1⟩ | ⟨s1, i1, h1⟩
    · obtain ⟨ws, s2, i2, ih⟩ := comp_rel st I enc g h ys (zs ++ [z]) s1 i1
      exact ⟨z :: ws, s2, by simpa using i2, go _ _ h1 ws s2 ih⟩
    · obtain ⟨ws, s2, i2, ih⟩ := comp_rel st I enc g h ys zs s1 i1
      exact ⟨ws, s2, i2, go _ _ h1 ws s2 ih⟩
end
/-- a tuple of natural numbers -/
def tn (xs : List Nat) : PyData := .tuple (xs.map fun i : Nat => .int (i : Int))
theorem tn_ti (xs : List Nat) : tn xs = ti (xs.map fun i : Nat => (i : Int)) := by simp [tn, ti]
@[simp] theorem sz_0 : szOk 0 = true := by decide
@[simp] theorem sz_1 : szOk 1 = true := by decide
@[simp] theorem sz_2 : szOk 2 = true := by decide
@[simp] theorem sz_3 : szOk 3 = true := by decide
@[simp] theorem sz_4 : szOk 4 = true := by decide
@[simp] theorem sz_5 : szOk 5 = true := by decide
@[simp] theorem sz_6 : szOk 6 = true := by decide
@[simp] theorem sz_7 : szOk 7 = true := by decide
@[simp] theorem sz_8 : szOk 8 = true := by decide
@[simp] theorem sz_9 : szOk 9 = true := by decide
@[simp] theorem sz_10 : szOk 10 = true := by decide
@[simp] theorem sz_11 : szOk 11 = true := by decide
section
variable {β : Type} {ft : FT} {gl : List PyData} {fuel : Nat}
/-- a walk over a list, by what holds after so many turns -/
theorem for_ix {w : List Nat} {pt : Pat} {body : Ss} (eb : β → PyData) (st : Nat → En) (xs : List β) (h : ∀ k (hk : k < xs.length), forS1 ft gl fuel pt w body (eb xs[k]) (st k) = .nx (st (k + 1))) :
    forE ft gl fuel pt w body (xs.map eb) (st 0) = .nx (st xs.length) := by
  obtain ⟨s, i, e⟩ := for_rel (ft := ft) (gl := gl) (fuel := fuel) (w := w) (pt := pt) (body := body) st (fun ys k => ys = xs.drop k ∧ k ≤ xs.length) eb (fun y ys k i => by
    obtain ⟨i1, i2⟩ := i
    have hk : k < xs.length := by
      have := congrArg List.length i1
      simp at this; omega
    rw [List.drop_eq_getElem_cons hk] at i1
    simp only [List.cons.injEq] at i1
    refine ⟨k + 1, ⟨i1.2, hk⟩, ?_⟩
    rw [i1.1]
    exact h k hk) xs 0 ⟨by simp, by omega⟩
  have : s = xs.length := by
    have := congrArg List.length i.1
    simp at this; omega
  rw [e, this]
/-- for .. in range(m) -/
theorem for_range {w : List Nat} {pt : Pat} {body : Ss} (st : Nat → En) (m : Nat) (h : ∀ k, k < m → forS1 ft gl fuel pt w body (.int (k : Nat)) (st k) = .nx (st (k + 1))) :
    forE ft gl fuel pt w body ((List.range m).map fun i : Nat => .int (i : Int)) (st 0) = .nx (st m) := by
  have := for_ix (ft := ft) (gl := gl) (fuel := fuel) (w := w) (pt := pt) (body := body) (fun i : Nat => .int (i : Int)) st (List.range m) (fun k hk => by
    rw [List.getElem_range]
    exact h k (by simpa using hk))
  rw [List.length_range] at this
  exact this
end
@[simp] theorem q1_neg (i : Int) : sem1 .neg (.int i) = some (.v (.int (-i))) := rfl
@[simp] theorem q1_abs (i : Int) : sem1 .abs (.int i) = some (.v (.int (if i < 0 then -i else i))) := rfl
@[simp] theorem q1_int (i : Int) : sem1 .int1 (.int i) = some (.v (.int i)) := rfl
@[simp] theorem q1_intb (b : Bool) : sem1 .int1 (.bool b) = some (.v (.int (if b then 1 else 0))) := rfl
@[simp] theorem q1_lenl (xs : List PyData) : sem1 .len (.list xs) = some (.v (.int xs.length)) := rfl
@[simp] theorem q1_lent (xs : List PyData) : sem1 .len (.tuple xs) = some (.v (.int xs.length)) := rfl
@[simp] theorem q1_suml (xs : List PyData) : sem1 .sum (.list xs) = (intsOf xs).map fun ns => .v (.int ns.sum) := rfl
@[simp] theorem q1_sumt (xs : List PyData) : sem1 .sum (.tuple xs) = (intsOf xs).map fun ns => .v (.int ns.sum) := rfl
theorem q1_maxl (x : PyData) (xs : List PyData) : sem1 .max (.list (x :: xs)) = if cmpOk (x :: xs) = true then some (.v (W.maxD x xs)) else none := rfl
theorem q1_minl (x : PyData) (xs : List PyData) : sem1 .min (.list (x :: xs)) = if cmpOk (x :: xs) = true then some (.v (W.minD x xs)) else none := rfl
theorem q1_maxt (x : PyData) (xs : List PyData) : sem1 .max (.tuple (x :: xs)) = if cmpOk (x :: xs) = true then some (.v (W.maxD x xs)) else none := rfl
theorem q1_mint (x : PyData) (xs : List PyData) : sem1 .min (.tuple (x :: xs)) = if cmpOk (x :: xs) = true then some (.v (W.minD x xs)) else none := rfl
@[simp] theorem q1_all (xs : List PyData) : sem1 .all (.list xs) = (boolsOf xs).map fun bs => .v (.bool (bs.all id)) := rfl
@[simp] theorem q1_any (xs : List PyData) : sem1 .any (.list xs) = (boolsOf xs).map fun bs => .v (.bool (bs.any id)) := rfl
@[simp] theorem q1_tupl (xs : List PyData) : sem1 .tuple (.list xs) = some (.v (.tuple xs)) := rfl
@[simp] theorem q1_tupt (xs : List PyData) : sem1 .tuple (.tuple xs) = some (.v (.tuple xs)) := rfl
@[simp] theorem q1_lisl (xs : List PyData) : sem1 .list (.list xs) = some (.l xs) := rfl
@[simp] theorem q1_list (xs : List PyData) : sem1 .list (.tuple xs) = some (.l xs) := rfl
@[simp] theorem q1_sorl (xs : List PyData) : sem1 .sorted (.list xs) = if sortOk xs = true then some (.l (sortD xs)) else none := rfl
@[simp] theorem q1_sort (xs : List PyData) : sem1 .sorted (.tuple xs) = if sortOk xs = true then some (.l (sortD xs)) else none := rfl
@[simp] theorem q1_isN (d : PyData) : sem1 .isN d = some (.v (.bool (isNone d))) := by cases d <;> rfl
@[simp] theorem q1_notN (d : PyData) : sem1 .notN d = some (.v (.bool (!isNone d))) := by cases d <;> rfl
@[simp] theorem q1_isF (b : Bool) : sem1 .isF (.bool b) = some (.v (.bool (!b))) := rfl
@[simp] theorem q1_notF (b : Bool) : sem1 .notF (.bool b) = some (.v (.bool b)) := rfl
@[simp] theorem q1_inst (t : Ty) (d : PyData) : sem1 (.inst t) d = some (.v (.bool (tyIs t d))) := by cases d <;> rfl
@[simp] theorem q1_revl (xs : List PyData) : sem1 .rev (.list xs) = some (.l xs.reverse) := rfl
@[simp] theorem q1_revt (xs : List PyData) : sem1 .rev (.tuple xs) = some (.v (.tuple xs.reverse)) := rfl
@[simp] theorem q2_addi (i j : Int) : sem2 .add (.int i) (.int j) = some (.v (.int (i + j))) := rfl
@[simp] theorem q2_addt (xs ys : List PyData) : sem2 .add (.tuple xs) (.tuple ys) = if szOk (xs.length + ys.length) = true then some (.v (.tuple (xs ++ ys))) else none := rfl
@[simp] theorem q2_addl (xs ys : List PyData) : sem2 .add (.list xs) (.list ys) = if szOk (xs.length + ys.length) = true then some (.l (xs ++ ys)) else none := rfl
@[simp] theorem q2_sub (i j : Int) : sem2 .sub (.int i) (.int j) = some (.v (.int (i - j))) := rfl
@[simp] theorem q2_mul (i j : Int) : sem2 .mul (.int i) (.int j) = if mulOk i j = true then some (.v (.int (i * j))) else none := rfl
@[simp] theorem q2_mult (xs : List PyData) (k : Int) : sem2 .mul (.tuple xs) (.int k) = if 1 ≤ k ∧ k ≤ 1000 ∧ xs.length ≤ 1000 ∧ xs ≠ [] then some (.v (.tuple (List.replicate k.toNat xs).flatten)) else none := rfl
@[simp] theorem q2_fdiv (i j : Int) : sem2 .fdiv (.int i) (.int j) = if divOk j = true then some (.v (.int (i / j))) else none := rfl
@[simp] theorem q2_mod (i j : Int) : sem2 .mod (.int i) (.int j) = if 0 < j then some (.v (.int (i % j))) else none := rfl
@[simp] theorem q2_pow (i j : Int) : sem2 .pow (.int i) (.int j) = if 0 ≤ j ∧ j ≤ 1000 ∧ i.natAbs < 1000 then some (.v (.int (i ^ j.toNat))) else none := rfl
@[simp] theorem q2_lt (i j : Int) : sem2 .lt (.int i) (.int j) = some (.v (.bool (decide (i < j)))) := rfl
@[simp] theorem q2_le (i j : Int) : sem2 .le (.int i) (.int j) = some (.v (.bool (decide (i ≤ j)))) := rfl
@[simp] theorem q2_gt (i j : Int) : sem2 .gt (.int i) (.int j) = some (.v (.bool (decide (j < i)))) := rfl
@[simp] theorem q2_ge (i j : Int) : sem2 .ge (.int i) (.int j) = some (.v (.bool (decide (j ≤ i)))) := rfl
@[simp] theorem q2_innl (d : PyData) (xs : List PyData) : sem2 .inn d (.list xs) = if flatD d = true then some (.v (.bool (xs.any fun z => PyData.eqv z d))) else none := rfl
@[simp] theorem q2_innt (d : PyData) (xs : List PyData) : sem2 .inn d (.tuple xs) = if flatD d = true then some (.v (.bool (xs.any fun z => PyData.eqv z d))) else none := rfl
@[simp] theorem q2_ninl (d : PyData) (xs : List PyData) : sem2 .nin d (.list xs) = if flatD d = true then some (.v (.bool (!xs.any fun z => PyData.eqv z d))) else none := rfl
@[simp] theorem q2_nint (d : PyData) (xs : List PyData) : sem2 .nin d (.tuple xs) = if flatD d = true then some (.v (.bool (!xs.any fun z => PyData.eqv z d))) else none := rfl
@[simp] theorem q2_ixl (xs : List PyData) (i : Int) : sem2 .ix (.list xs) (.int i) = (L2.atI xs i).map .v := rfl
@[simp] theorem q2_ixt (xs : List PyData) (i : Int) : sem2 .ix (.tuple xs) (.int i) = (L2.atI xs i).map .v := rfl
@[simp] theorem q2_max2 (i j : Int) : sem2 .max2 (.int i) (.int j) = some (.v (.int (if j > i then j else i))) := rfl
@[simp] theorem q2_min2 (i j : Int) : sem2 .min2 (.int i) (.int j) = some (.v (.int (if j < i then j else i))) := rfl
@[simp] theorem q2_index (xs : List PyData) (d : PyData) : sem2 .index (.list xs) d = if flatD d = true then (xs.findIdx? fun z => PyData.eqv z d).map fun j => .v (.int (j : Nat)) else none := rfl
@[simp] theorem q2_indexT (xs : List PyData) (d : PyData) : sem2 .index (.tuple xs) d = if flatD d = true then (xs.findIdx? fun z => PyData.eqv z d).map fun j => .v (.int (j : Nat)) else none := rfl
@[simp] theorem q2_countT (xs : List PyData) (d : PyData) : sem2 .count (.tuple xs) d = if flatD d = true then some (.v (.int (xs.countP fun z => PyData.eqv z d : Nat))) else none := rfl
@[simp] theorem q2_count (xs : List PyData) (d : PyData) : sem2 .count (.list xs) d = if flatD d = true then some (.v (.int (xs.countP fun z => PyData.eqv z d : Nat))) else none := rfl
@[simp] theorem q2_eqt (xs ys : List PyData) : sem2 .eq (.tuple xs) (.tuple ys) = if flatD (.tuple xs) && flatD (.tuple ys) then some (.v (.bool (PyData.eqvAll xs ys))) else none := by simp [sem2, PyData.eqv]
@[simp] theorem q2_net (xs ys : List PyData) : sem2 .ne (.tuple xs) (.tuple ys) = if flatD (.tuple xs) && flatD (.tuple ys) then some (.v (.bool (!PyData.eqvAll xs ys))) else none := by simp [sem2, PyData.eqv]
@[simp] theorem q2_eqb (x y : Bool) : sem2 .eq (.bool x) (.bool y) = some (.v (.bool (x == y))) := by simp [sem2, flat_bool, PyData.eqv]
@[simp] theorem q2_neb (x y : Bool) : sem2 .ne (.bool x) (.bool y) = some (.v (.bool (!(x == y)))) := by simp [sem2, flat_bool, PyData.eqv]
@[simp] theorem q2_eqs (x y : Str) : sem2 .eq (.str x) (.str y) = some (.v (.bool (decide (x = y)))) := by simp [sem2, flat_str, eqv_str]
@[simp] theorem q2_nes (x y : Str) : sem2 .ne (.str x) (.str y) = some (.v (.bool (!decide (x = y)))) := by simp [sem2, flat_str, eqv_str]
@[simp] theorem s2_eq_int (i j : Int) : sem2 .eq (.int i) (.int j) = some (.v (.bool (decide (i = j)))) := by
  simp [sem2, flat_int, eqv_int]
@[simp] theorem s2_ne_int (i j : Int) : sem2 .ne (.int i) (.int j) = some (.v (.bool (!decide (i = j)))) := by
  simp [sem2, flat_int, eqv_int]
@[simp] theorem q2_eqni (i : Int) : sem2 .eq .none (.int i) = some (.v (.bool false)) := by simp [sem2, flat_int, flat_none, PyData.eqv]
@[simp] theorem q2_eqin (i : Int) : sem2 .eq (.int i) .none = some (.v (.bool false)) := by simp [sem2, flat_int, flat_none, PyData.eqv]
@[simp] theorem q2_neni (i : Int) : sem2 .ne .none (.int i) = some (.v (.bool true)) := by simp [sem2, flat_int, flat_none, PyData.eqv]
@[simp] theorem q2_nein (i : Int) : sem2 .ne (.int i) .none = some (.v (.bool true)) := by simp [sem2, flat_int, flat_none, PyData.eqv]
@[simp] theorem q2_eqnn : sem2 .eq .none .none = some (.v (.bool true)) := by simp [sem2, flat_none, PyData.eqv]
@[simp] theorem q2_nenn : sem2 .ne .none .none = some (.v (.bool false)) := by simp [sem2, flat_none, PyData.eqv]
@[simp] theorem q2_lis_l (xs : List PyData) (lo hi : Option Int) : semSl (.list xs) lo hi = some (.l (cutD xs lo hi)) := rfl
@[simp] theorem q2_lis_t (xs : List PyData) (lo hi : Option Int) : semSl (.tuple xs) lo hi = some (.v (.tuple (cutD xs lo hi))) := rfl
@[simp] theorem qs_l (xs : List PyData) : seqOf (.list xs) = some xs := rfl
@[simp] theorem qs_t (xs : List PyData) : seqOf (.tuple xs) = some xs := rfl
@[simp] theorem qt_n : truth .none = some false := rfl
@[simp] theorem qt_b (b : Bool) : truth (.bool b) = some b := rfl
@[simp] theorem qt_i (i : Int) : truth (.int i) = some (i != 0) := rfl
@[simp] theorem qt_l (xs : List PyData) : truth (.list xs) = some (!xs.isEmpty) := rfl
@[simp] theorem qt_t (xs : List PyData) : truth (.tuple xs) = some (!xs.isEmpty) := rfl
@[simp] theorem seqOf_tn (xs : List Nat) : seqOf (tn xs) = some (xs.map fun i : Nat => .int (i : Int)) := rfl
@[simp] theorem seqOf_ti (xs : List Int) : seqOf (ti xs) = some (xs.map .int) := rfl
theorem flat_tn (xs : List Nat) : flatD (tn xs) = true := by rw [tn_ti]; exact flat_ti _
theorem castL_inj {xs ys : List Nat} : (xs.map fun i : Nat => (i : Int)) = (ys.map fun i : Nat => (i : Int)) ↔ xs = ys := by
  constructor
  · intro h
    induction xs generalizing ys with
    | nil => cases ys with
      | nil => rfl
      | cons y ys => simp at h
    | cons x xs ih => cases ys with
      | nil => simp at h
      | cons y ys =>
        simp only [List.map_cons, List.cons.injEq] at h
        rw [ih h.2]
        have : x = y := by omega
        rw [this]
  · intro h; rw [h]
theorem eqv_tn (xs ys : List Nat) : PyData.eqv (tn xs) (tn ys) = decide (xs = ys) := by
  rw [tn_ti, tn_ti, eqv_ti, Bool.eq_iff_iff, decide_eq_true_eq, decide_eq_true_eq]
  exact castL_inj
theorem any_nat (xs : List Nat) (i : Nat) : ((xs.map fun i : Nat => PyData.int (i : Int)).any fun z => PyData.eqv z (.int (i : Int))) = decide (i ∈ xs) := by
  rw [Bool.eq_iff_iff]
  simp [eqv_int]
  exact ⟨fun ⟨x, h1, h2⟩ => by have : x = i := by omega
                               rw [← this]; exact h1, fun h => ⟨i, h, rfl⟩⟩
theorem any_tn (xs : List (List Nat)) (i : List Nat) : ((xs.map tn).any fun z => PyData.eqv z (tn i)) = decide (i ∈ xs) := by
  rw [Bool.eq_iff_iff]
  simp [eqv_tn]
@[simp] theorem s1_len_tn (xs : List Nat) : sem1 .len (tn xs) = some (.v (.int (xs.length : Nat))) := by simp [tn, sem1]
@[simp] theorem s1_len_ti (xs : List Int) : sem1 .len (ti xs) = some (.v (.int (xs.length : Nat))) := by simp [ti, sem1]
@[simp] theorem s2_inn_tn (xs : List Nat) (i : Nat) : sem2 .inn (.int (i : Int)) (tn xs) = some (.v (.bool (decide (i ∈ xs)))) := by
  rw [tn, sem2, if_pos (flat_int _), any_nat]
@[simp] theorem s2_nin_tn (xs : List Nat) (i : Nat) : sem2 .nin (.int (i : Int)) (tn xs) = some (.v (.bool (!decide (i ∈ xs)))) := by
  rw [tn, sem2, if_pos (flat_int _), any_nat]
theorem s2_ix_tn (xs : List Nat) (k : Nat) (h : k < xs.length) : sem2 .ix (tn xs) (.int (k : Int)) = some (.v (.int (xs[k] : Nat))) := by
  simp [tn, sem2, ix_nat _ k (show k < (xs.map fun i : Nat => PyData.int (i : Int)).length by simpa using h)]
theorem s2_add_tn (xs : List Nat) (k : Nat) (h : szOk (xs.length + 1) = true) : sem2 .add (tn xs) (.tuple [.int (k : Int)]) = some (.v (tn (xs ++ [k]))) := by
  simp [tn, sem2, h]
@[simp] theorem s2_eq_tn (xs ys : List Nat) : sem2 .eq (tn xs) (tn ys) = some (.v (.bool (decide (xs = ys)))) := by
  simp [sem2, flat_tn, eqv_tn]
@[simp] theorem s2_ne_tn (xs ys : List Nat) : sem2 .ne (tn xs) (tn ys) = some (.v (.bool (!decide (xs = ys)))) := by
  simp [sem2, flat_tn, eqv_tn]
section
variable {β σ : Type} {ft : FT} {gl : List PyData} {fuel : Nat}
/-- a loop by a checked fold -/
theorem for_opt {w : List Nat} {pt : Pat} {body : Ss} (enc : σ → En) (eb : β → PyData) (f : σ → β → Option σ) (h : ∀ y s s1, f s y = some s1 → forS1 ft gl fuel pt w body (eb y) (enc s) = .nx (enc s1)) : ∀ (ys : List β) (s s' : σ) (_ : ys.foldlM f s = some s'),
    forE ft gl fuel pt w body (ys.map eb) (enc s) = .nx (enc s')
  | [], s, s', e => by simp at e; subst e; simp [forE, forLoop]
  | y :: ys, s, s', e => by
    rw [List.foldlM_cons] at e
    cases e1 : f s y with
    | none => rw [e1] at e; cases e
    | some s1 =>
      rw [e1] at e
      have ih := for_opt enc eb f h ys s1 s' e
      have h1 := h y s s1 e1
      unfold forE at ih ⊢
      rw [forS1_old] at h1
      rw [List.map_cons, forLoop]
      cases hb : bindP pt (eb y) (enc s) with
      | none => rw [hb] at h1; cases h1
      | some e1 =>
        rw [hb] at h1
        simp only [SOut.opt, SOut.seq] at h1
        cases hx : exSs ft gl fuel body e1 with
        | nx e2 => rw [hx] at h1; simp only [fgO, SOut.nx.injEq] at h1; simp only [hx, h1, ih]
        | _ => rw [hx] at h1; simp [fgO] at h1
theorem fin_sq {A : List Slot} {ss : Ss} {o o' : SOut} {R : FOut} (e : o = o') (h : fin A (sqE ft gl fuel ss o') = R) : fin A (sqE ft gl fuel ss o) = R := by rw [e]; exact h
theorem fg_sq {w : List Nat} {ss : Ss} {o o' : SOut} {R : SOut} (e : o = o') (h : fgO w (sqE ft gl fuel ss o') = R) : fgO w (sqE ft gl fuel ss o) = R := by rw [e]; exact h
theorem sq_sq {ss : Ss} {o o' : SOut} {R : SOut} (e : o = o') (h : sqE ft gl fuel ss o' = R) : sqE ft gl fuel ss o = R := by rw [e]; exact h
end
/-- a pair of ints -/
def fr (x : Int × Int) : PyData := .tuple [.int x.1, .int x.2]
theorem fr_0 (x : Int × Int) : sem2 .ix (fr x) (.int 0) = some (.v (.int x.1)) := rfl
theorem fr_1 (x : Int × Int) : sem2 .ix (fr x) (.int 1) = some (.v (.int x.2)) := rfl
theorem fr_mk (a b : Int) : PyData.tuple [.int a, .int b] = fr (a, b) := rfl
theorem flat_fr (x : Int × Int) : flatD (fr x) = true := by simp [flatD, fr, PyData.depth, PyData.depthAll]
theorem fr_eq (x y : Int × Int) : sem2 .eq (fr x) (fr y) = some (.v (.bool (decide (x = y)))) := by
  obtain ⟨a, b⟩ := x
  obtain ⟨c, d⟩ := y
  simp [sem2, flat_fr, fr, PyData.eqvAll, eqv_int, flatD, PyData.depth, PyData.depthAll, q2_eqt, q2_net, PyData.eqv]
  first | done | rfl
theorem fr_ne (x y : Int × Int) : sem2 .ne (fr x) (fr y) = some (.v (.bool (!decide (x = y)))) := by
  obtain ⟨a, b⟩ := x
  obtain ⟨c, d⟩ := y
  simp [sem2, flat_fr, fr, PyData.eqvAll, eqv_int, flatD, PyData.depth, PyData.depthAll, q2_eqt, q2_net, PyData.eqv]
  first | done | rfl
section
variable {β σ : Type} {ft : FT} {gl : List PyData} {fuel : Nat}
/-- a loop that breaks off -/
theorem for_brk {w : List Nat} {pt : Pat} {body : Ss} (enc : σ → En) (I : σ → Prop) (eb : β → PyData) (go : σ → Bool) (step : σ → σ)
    (h1 : ∀ y s, I s → go s = true → I (step s) ∧ forS1 ft gl fuel pt w body (eb y) (enc s) = .nx (enc (step s)))
    (h2 : ∀ y s, I s → go s = false → forS1 ft gl fuel pt w body (eb y) (enc s) = .brk (enc s)) : ∀ (ys : List β) (s : σ) (_ : I s),
    forE ft gl fuel pt w body (ys.map eb) (enc s) = .nx (enc (runW go step ys.length s)) ∧ I (runW go step ys.length s)
  | [], s, i => by simp [forE, forLoop, runW, i]
  | y :: ys, s, i => by
    cases hg : go s with
    | true =>
      obtain ⟨i1, e1⟩ := h1 y s i hg
      obtain ⟨ih, ih2⟩ := for_brk enc I eb go step h1 h2 ys (step s) i1
      simp only [List.length_cons, runW, hg, if_true]
      refine ⟨?_, ih2⟩
      unfold forE at ih ⊢
      rw [forS1_old] at e1
      rw [List.map_cons, forLoop]
      cases hb : bindP pt (eb y) (enc s) with
      | none => rw [hb] at e1; cases e1
      | some e0 =>
        rw [hb] at e1
        simp only [SOut.opt, SOut.seq] at e1
        cases hx : exSs ft gl fuel body e0 with
        | nx e2 => rw [hx] at e1; simp only [fgO, SOut.nx.injEq] at e1; simp only [hx, e1, ih]
        | _ => rw [hx] at e1; simp [fgO] at e1
    | false =>
      have e1 := h2 y s i hg
      simp only [List.length_cons, runW, hg]
      refine ⟨?_, by simpa using i⟩
      unfold forE
      rw [forS1_old] at e1
      rw [List.map_cons, forLoop]
      cases hb : bindP pt (eb y) (enc s) with
      | none => rw [hb] at e1; cases e1
      | some e0 =>
        rw [hb] at e1
        simp only [SOut.opt, SOut.seq] at e1
        cases hx : exSs ft gl fuel body e0 with
        | brk e2 => rw [hx] at e1; simp only [fgO, SOut.brk.injEq] at e1; simp [hx, e1]
        | _ => rw [hx] at e1; simp [fgO] at e1
theorem runW_ge (go : σ → Bool) (step : σ → σ) (m : σ → Nat) (h : ∀ s, go s = true → m (step s) < m s) : ∀ (k : Nat) (s : σ), m s ≤ k → go (runW go step k s) = false ∨ m (runW go step k s) = 0
  | 0, s, hk => .inr (by simp [runW]; omega)
  | k + 1, s, hk => by
    cases hg : go s with
    | false => exact .inl (by simp [runW, hg])
    | true =>
      have := h s hg
      have ih := runW_ge go step m h k (step s) (by omega)
      simpa [runW, hg] using ih
end
/-! ### lists of ints -/
def rg (a b : Nat) : List Nat := (List.range (b - a)).map (a + ·)
def dn (a b : Nat) : List Nat := (List.range (a - b)).map (a - ·)
theorem sm_nat {m : Nat} (h : m ≤ 1000000) : smallI (m : Int) = true := smI_of (by omega)
theorem rng1_nat {m : Nat} (h : m ≤ 1000000) : rng1 (.int (m : Int)) = some ((List.range m).map fun i : Nat => .int (i : Int)) := by rw [rng1_eq (sm_nat (by omega))]; simp
theorem rng2_nat {a b : Nat} (ha : a ≤ 1000000) (hb : b ≤ 1000000) : rng2 (.int (a : Int)) (.int (b : Int)) = some ((rg a b).map fun k : Nat => .int (k : Int)) := by
  rw [rng2_eq (sm_nat (by omega)) (sm_nat (by omega))]
  have : ((b : Int) - (a : Int)).toNat = b - a := by omega
  simp [rg, this]
theorem rng3_nat {a b : Nat} (ha : a ≤ 1000000) (hb : b ≤ 1000000) : rng3 (.int (a : Int)) (.int (b : Int)) (.int (-1)) = some ((dn a b).map fun k : Nat => .int (k : Int)) := by
  simp only [rng3, sm_nat ha, sm_nat hb]
  have : ((a : Int) - (b : Int)).toNat = a - b := by omega
  simp only [this, dn, List.map_map, Bool.and_self, decide_true, Bool.true_and, if_true, Option.some.injEq]
  apply List.map_congr_left
  intro k hk
  have := List.mem_range.1 hk
  simp only [Function.comp, PyData.int.injEq]
  omega
theorem mem_rg {a b k : Nat} : k ∈ rg a b ↔ a ≤ k ∧ k < b := by
  simp only [rg, List.mem_map, List.mem_range]
  constructor
  · rintro ⟨i, h, rfl⟩; omega
  · intro h; exact ⟨k - a, by omega, by omega⟩
theorem alike_ints (xs : List Int) : alikeL (xs.map .int) = true := by
  simp [alikeL, W.alike]
theorem cmpOk_ints (xs : List Int) : cmpOk (xs.map .int) = true := by
  have := depA_int xs
  simp only [cmpOk, alike_ints, Bool.true_and, Bool.and_eq_true, flatA, decide_eq_true_eq]
  refine ⟨by simp [isNone], by omega⟩
theorem q1_max_ints (x : Int) (xs : List Int) : sem1 .max (.list ((x :: xs).map .int)) = some (.v (.int (xs.foldl max x))) := by
  rw [List.map_cons, q1_maxl, ← List.map_cons, cmpOk_ints, if_pos rfl, W.maxD_ints]
theorem q1_min_ints (x : Int) (xs : List Int) : sem1 .min (.list ((x :: xs).map .int)) = some (.v (.int (xs.foldl min x))) := by
  rw [List.map_cons, q1_minl, ← List.map_cons, cmpOk_ints, if_pos rfl, W.minD_ints]
theorem q1_maxt_ints (x : Int) (xs : List Int) : sem1 .max (.tuple ((x :: xs).map .int)) = some (.v (.int (xs.foldl max x))) := by
  rw [List.map_cons, q1_maxt, ← List.map_cons, cmpOk_ints, if_pos rfl, W.maxD_ints]
/-! ### tuples of natural numbers -/
theorem sl_tn_to (xs : List Nat) (k : Nat) : semSl (tn xs) none (some (k : Int)) = some (.v (tn (xs.take k))) := by
  simp only [tn, semSl, cut_to]
  rw [← List.map_take]
theorem sl_tn_from (xs : List Nat) (k : Nat) : semSl (tn xs) (some (k : Int)) none = some (.v (tn (xs.drop k))) := by
  simp only [tn, semSl, cut_from]
  rw [← List.map_drop]
theorem q1_list_tn (xs : List Nat) : sem1 .list (tn xs) = some (.l (xs.map fun i : Nat => .int (i : Int))) := rfl
theorem q1_tup_nat (xs : List Nat) : sem1 .tuple (.list (xs.map fun i : Nat => .int (i : Int))) = some (.v (tn xs)) := rfl
theorem nat_ints (xs : List Nat) : (xs.map fun i : Nat => PyData.int (i : Int)) = (xs.map fun i : Nat => (i : Int)).map .int := by simp
theorem q1_max_nats (x : Int) (xs : List Nat) : sem1 .max (.list (.int x :: xs.map fun i : Nat => .int (i : Int))) = some (.v (.int (xs.foldl (fun (a : Int) (k : Nat) => max a k) x))) := by
  rw [nat_ints, ← List.map_cons, q1_max_ints, List.foldl_map]
theorem ix_tn (xs : List Nat) (k : Nat) (h : k < xs.length) : sem2 .ix (tn xs) (.int (k : Int)) = some (.v (.int (xs.getD k 0 : Nat))) := by
  rw [s2_ix_tn xs k h, List.getD_eq_getElem?_getD, List.getElem?_eq_getElem h]
  rfl
theorem enumD_nat (xs : List Nat) : enumD (xs.map fun i : Nat => .int (i : Int)) = (List.range xs.length).map fun k : Nat => .tuple [.int (k : Int), .int (xs.getD k 0 : Nat)] := by
  unfold enumD
  apply List.ext_getElem
  · simp
  · intro k h1 h2
    simp only [List.length_map, List.length_range] at h2
    simp [List.getElem_zipWith, List.getD_eq_getElem?_getD, h2]
/-- a number or None -/
def optD : Option Nat → PyData
  | some k => .int (k : Int)
  | none => .none
theorem isN_opt (o : Option Nat) : isNone (optD o) = o.isNone := by cases o <;> rfl
theorem flat_opt (o : Option Nat) : flatD (optD o) = true := by cases o <;> simp [optD, flat_int, flat_none]
theorem eqv_opt (a b : Option Nat) : PyData.eqv (optD a) (optD b) = decide (a = b) := by
  cases a <;> cases b <;> simp [optD, PyData.eqv, eqv_int]
  omega
theorem ne_opt (a b : Option Nat) : sem2 .ne (optD a) (optD b) = some (.v (.bool (!decide (a = b)))) := by
  simp [sem2, flat_opt, eqv_opt]
theorem eq_opt (a b : Option Nat) : sem2 .eq (optD a) (optD b) = some (.v (.bool (decide (a = b)))) := by
  simp [sem2, flat_opt, eqv_opt]
section
variable {ft : FT} {gl : List PyData} {fuel : Nat}
theorem seq_step {ss : Ss} {s : S} {env e' : En} {R : SOut} (h : exS ft gl fuel s env = .nx e') (k : exSs ft gl fuel ss e' = R) : exSs ft gl fuel (.cons s ss) env = R := by
  rw [ex_cons, h, sqE_nx]
  exact k
theorem seq_end {s : S} {env : En} {R : SOut} (h : exS ft gl fuel s env = R) (hr : ∀ e, R ≠ .nx e) {ss : Ss} : exSs ft gl fuel (.cons s ss) env = R := by
  rw [ex_cons, h]
  cases R <;> first | rfl | exact absurd rfl (hr _)
theorem seq_nil {env : En} : exSs ft gl fuel .nil env = .nx env := ex_nil ft gl fuel env
/-- a turn that leaves nothing -/
theorem turn_of {pt : Pat} {w : List Nat} {body : Ss} {x : PyData} {en e1 e2 : En} {e3 : En} (h1 : bindP pt x en = some e1) (h2 : exSs ft gl fuel body e1 = .nx e2) (h3 : forgE e2 w = e3) : forS1 ft gl fuel pt w body x en = .nx e3 := by
  unfold forS1
  rw [h1]
  simp only [f1A, h2, fgO, h3]
end
def mostL : List Int → Option Int
  | [] => none
  | x :: xs => some (xs.foldl max x)
theorem q1_max_most {xs : List Int} {v : Int} (h : mostL xs = some v) : sem1 .max (.list (xs.map .int)) = some (.v (.int v)) := by
  cases xs with
  | nil => cases h
  | cons x xs => cases h; exact q1_max_ints x xs
theorem q1_maxt_most {xs : List Int} {v : Int} (h : mostL xs = some v) : sem1 .max (.tuple (xs.map .int)) = some (.v (.int v)) := by
  cases xs with
  | nil => cases h
  | cons x xs => cases h; exact q1_maxt_ints x xs
theorem mostL_ge {xs : List Int} {v : Int} (h : mostL xs = some v) : v ∈ xs ∧ ∀ x ∈ xs, x ≤ v := by
  cases xs with
  | nil => cases h
  | cons x xs =>
    cases h
    have : ∀ (xs : List Int) (x : Int), (xs.foldl max x = x ∨ xs.foldl max x ∈ xs) ∧ x ≤ xs.foldl max x ∧ ∀ y ∈ xs, y ≤ xs.foldl max x := by
      intro xs
      induction xs with
      | nil => intro x; simp
      | cons y ys ih =>
        intro x
        obtain ⟨h1, h2, h3⟩ := ih (max x y)
        simp only [List.foldl_cons, List.mem_cons]
        refine ⟨?_, by omega, ?_⟩
        · rcases h1 with h1 | h1
          · rw [h1]
            by_cases c : x ≤ y
            · right; left; omega
            · left; omega
          · right; right; exact h1
        · rintro z (rfl | hz)
          · omega
          · exact h3 z hz
    obtain ⟨h1, h2, h3⟩ := this xs x
    refine ⟨?_, ?_⟩
    · rcases h1 with h1 | h1
      · rw [h1]; exact List.mem_cons_self
      · exact List.mem_cons_of_mem _ h1
    · rintro z (_ | ⟨_, hz⟩)
      · exact h2
      · exact h3 z hz
@[simp] theorem rdB_s (i : Nat) (e : En) : rdB i e = rB (e.gt i) := rdB_eq i e
@[simp] theorem rdV_s (i : Nat) (e : En) : rdV i e = rV i e (e.gt i) := rdV_eq i e
@[simp] theorem rdM_s (i : Nat) (e : En) : rdM i e = rM (e.gt i) := rdM_eq i e
end PL

/-! part PLStd2 -/
set_option Elab.async false
set_option linter.all false
set_option autoImplicit false
set_option maxRecDepth 100000
set_option maxHeartbeats 4000000
/-! what the shared defs do -/
namespace PL
open PySem
/-- is this an int between? -/
def isIn (lo hi : Int) : PyData → Bool
  | .int v => decide (lo ≤ v) && decide (v ≤ hi)
  | _ => false
section
variable {P : List Fd} {gl : List PyData} {fuel n : Nat}
theorem c_demand (hP : P[0]? = some Std.fd_demand) (b : Bool) (s : Str) : callF P gl fuel (n + 1) 0 [.val (.bool b), .val (.str s)] = if b = true then .ok (.v .none) [.val (.bool b), .val (.str s)] else .exc 0 s := by
  rw [callF_eq hP (by rfl)]
  cases b <;> simp [Std.fd_demand, Std.b_demand]
theorem c_is_in (hP : P[1]? = some Std.fd_is_in) (d : PyData) (lo hi : Int) : callF P gl fuel (n + 1) 1 [.val d, .val (.int lo), .val (.int hi)] = .ok (.v (.bool (isIn lo hi d))) [.val d, .val (.int lo), .val (.int hi)] := by
  rw [callF_eq hP (by rfl)]
  cases d <;> simp [Std.fd_is_in, Std.b_is_in, tyIs, PyData.isInt, PyData.isBool, isIn]
def isTupD (lo hi : Int) : PyData → Bool
  | .tuple xs => decide (lo ≤ xs.length) && decide ((xs.length : Int) ≤ hi)
  | _ => false
theorem c_is_tuple (hP : P[2]? = some Std.fd_is_tuple) (d : PyData) (lo hi : Int) : callF P gl fuel (n + 1) 2 [.val d, .val (.int lo), .val (.int hi)] = .ok (.v (.bool (isTupD lo hi d))) [.val d, .val (.int lo), .val (.int hi)] := by
  rw [callF_eq hP (by rfl)]
  cases d <;> simp [Std.fd_is_tuple, Std.b_is_tuple, tyIs, PyData.isTuple, isTupD]

def areIn (least most low high : Int) : PyData → Bool
  | .tuple xs => (decide (least ≤ xs.length) && decide ((xs.length : Int) ≤ most)) && xs.all (isIn low high)
  | _ => false
theorem c_are_in (h1 : P[1]? = some Std.fd_is_in) (h2 : P[2]? = some Std.fd_is_tuple) (hP : P[3]? = some Std.fd_are_in) (d : PyData) (a b lo hi : Int) (hl : ∀ xs, d = .tuple xs → xs.length ≤ 1000) :
    callF P gl fuel (n + 2) 3 [.val d, .val (.int a), .val (.int b), .val (.int lo), .val (.int hi)] = .ok (.v (.bool (areIn a b lo hi d))) [.val d, .val (.int a), .val (.int b), .val (.int lo), .val (.int hi)] := by
  rw [callF_eq hP (by rfl)]
  cases d with
  | tuple xs =>
    have e := comp_map (ft := callF P gl fuel (n + 1)) (gl := gl) (own := [5]) (pt := .nm 5) (hc := false) (c := .none) (e := .call 1 (.cons (.var 5) (.cons (.var 3) (.cons (.var 4) .nil)))) (en := [.val (.tuple xs), .val (.int a), .val (.int b), .val (.int lo), .val (.int hi), .non]) id (fun x => .bool (isIn lo hi x)) xs fun y hy => by
        simp [c_is_in h1]
    rw [List.map_id] at e
    have hb : boolsOf (xs.map fun x => .bool (isIn lo hi x)) = some (xs.map fun x => isIn lo hi x) := by
      rw [← boolsOf_map (xs.map fun x => isIn lo hi x), List.map_map]; rfl
    have hz : szOk xs.length = true := sz_of (by have := hl xs rfl; omega)
    simp [Std.fd_are_in, Std.b_are_in, c_is_tuple h2, isTupD, areIn, compEnd, hb, hz, e]
  | _ => simp [Std.fd_are_in, Std.b_are_in, c_is_tuple h2, isTupD, areIn]
theorem areIn_ints {a b lo hi : Int} {d : PyData} (h : areIn a b lo hi d = true) : ∃ ns, d = ti ns ∧ a ≤ ns.length ∧ (ns.length : Int) ≤ b ∧ ∀ v ∈ ns, lo ≤ v ∧ v ≤ hi := by
  cases d with
  | tuple xs =>
    simp only [areIn, Bool.and_eq_true, decide_eq_true_eq] at h
    obtain ⟨⟨h1, h2⟩, h3⟩ := h
    have : ∀ xs : List PyData, xs.all (isIn lo hi) = true → ∃ ns : List Int, xs = ns.map .int ∧ ∀ v ∈ ns, lo ≤ v ∧ v ≤ hi := by
      intro xs
      induction xs with
      | nil => exact fun _ => ⟨[], rfl, by simp⟩
      | cons x xs ih =>
        intro h
        simp only [List.all_cons, Bool.and_eq_true] at h
        obtain ⟨ns, rfl, h4⟩ := ih h.2
        cases x with
        | int i =>
          have h5 := h.1
          simp only [isIn, Bool.and_eq_true, decide_eq_true_eq] at h5
          exact ⟨i :: ns, rfl, by simpa using ⟨h5, h4⟩⟩
        | _ => have h5 := h.1; simp [isIn] at h5
    obtain ⟨ns, rfl, h4⟩ := this xs h3
    simp only [List.length_map] at h1 h2
    exact ⟨ns, rfl, h1, h2, h4⟩
  | _ => simp [areIn] at h
theorem areIn_ti (a b lo hi : Int) (ns : List Int) : areIn a b lo hi (ti ns) = ((decide (a ≤ ns.length) && decide ((ns.length : Int) ≤ b)) && ns.all fun v => decide (lo ≤ v) && decide (v ≤ hi)) := by
  simp [areIn, ti, isIn, List.all_map, Function.comp_def]
/-- each is less than the next -/
def risB (ns : List Int) : Bool := (ns.zip (ns.drop 1)).all fun p => decide (p.1 < p.2)
def areRis (a b hi : Int) (d : PyData) : Bool := areIn a b 0 hi d && (match d with
  | .tuple xs => (match intsOf xs with
    | some ns => risB ns
    | none => false)
  | _ => false)
theorem areRis_ti (a b hi : Int) (ns : List Int) : areRis a b hi (ti ns) = (areIn a b 0 hi (ti ns) && risB ns) := by
  simp only [areRis, ti, intsOf_map]
theorem c_are_rising (h1 : P[1]? = some Std.fd_is_in) (h2 : P[2]? = some Std.fd_is_tuple) (h3 : P[3]? = some Std.fd_are_in) (hP : P[4]? = some Std.fd_are_rising) (d : PyData) (a b hi : Int) (hl : ∀ xs, d = .tuple xs → xs.length ≤ 1000) :
    callF P gl fuel (n + 3) 4 [.val d, .val (.int a), .val (.int b), .val (.int hi)] = .ok (.v (.bool (areRis a b hi d))) [.val d, .val (.int a), .val (.int b), .val (.int hi)] := by
  rw [callF_eq hP (by rfl)]
  have hc := c_are_in (gl := gl) (fuel := fuel) (n := n) h1 h2 h3 d a b 0 hi hl
  cases hA : areIn a b 0 hi d with
  | false => simp [Std.fd_are_rising, Std.b_are_rising, hc, hA, areRis]
  | true =>
    obtain ⟨ns, rfl, q1, q2, q3⟩ := areIn_ints hA
    have hz : ns.length ≤ 1000 := by simpa using hl _ rfl
    have e := comp_map (ft := callF P gl fuel (n + 2)) (gl := gl) (own := [4, 5]) (pt := .two (.nm 4) (.nm 5)) (hc := false) (c := .none) (e := .op2 .lt (.b 4) (.b 5)) (en := [.val (ti ns), .val (.int a), .val (.int b), .val (.int hi), .non, .non])
      (fun p : Int × Int => .tuple [.int p.1, .int p.2]) (fun p => .bool (decide (p.1 < p.2))) (ns.zip (ns.drop 1)) fun y hy => by simp
    have hb : boolsOf ((ns.zip (ns.drop 1)).map fun p => .bool (decide (p.1 < p.2))) = some ((ns.zip (ns.drop 1)).map fun p => decide (p.1 < p.2)) := by
      rw [← boolsOf_map, List.map_map]; rfl
    have hz2 : szOk ((ns.zip (ns.drop 1)).map fun p => PyData.bool (decide (p.1 < p.2))).length = true := sz_of (by simp; omega)
    have hs := cut_from (ns.map .int) 1
    rw [← List.map_drop] at hs
    simp only [Int.cast_ofNat_Int] at hs
    simp only [ti] at *
    simp [Std.fd_are_rising, Std.b_are_rising, hc, hA, areRis, ti, hs, zipD_map, e, hb, compEnd, hz2, intsOf_map, risB, -List.length_map, -List.drop_one, -List.map_drop]
def isOrd (m : Int) (d : PyData) : Bool := areIn m m 0 (m - 1) d && (match d with
  | .tuple xs => (match intsOf xs with
    | some ns => decide (((uniq ns).length : Int) = m)
    | none => false)
  | _ => false)
theorem c_is_order (h1 : P[1]? = some Std.fd_is_in) (h2 : P[2]? = some Std.fd_is_tuple) (h3 : P[3]? = some Std.fd_are_in) (hP : P[5]? = some Std.fd_is_order) (d : PyData) (m : Int) (hl : ∀ xs, d = .tuple xs → xs.length ≤ 1000) :
    callF P gl fuel (n + 3) 5 [.val d, .val (.int m)] = .ok (.v (.bool (isOrd m d))) [.val d, .val (.int m)] := by
  rw [callF_eq hP (by rfl)]
  have hc := c_are_in (gl := gl) (fuel := fuel) (n := n) h1 h2 h3 d m m 0 (m - 1) hl
  cases hA : areIn m m 0 (m - 1) d with
  | false => simp [Std.fd_is_order, Std.b_is_order, hc, hA, isOrd]
  | true =>
    obtain ⟨ns, rfl, q1, q2, q3⟩ := areIn_ints hA
    have hz : ns.length ≤ 1000 := by simpa using hl _ rfl
    simp only [ti] at *
    simp [Std.fd_is_order, Std.b_is_order, hc, hA, isOrd, intsOf_map, lenSetD, hz, flat_int, eqv_int]
/-! ### fractions -/
def gcM (s : Nat × Nat) : Nat := if s.2 = 0 then 0 else 2 * Nat.log2 (s.1 * s.2) + (if s.1 < s.2 then 1 else 0) + 1
def gcStep (s : Nat × Nat) : Nat × Nat := (s.2, s.1 % s.2)
theorem gcM_step {s : Nat × Nat} (h : s.2 ≠ 0) : gcM (gcStep s) < gcM s := by
  obtain ⟨x, y⟩ := s
  simp only at h
  unfold gcM gcStep
  simp only [h, if_false]
  by_cases h2 : x % y = 0
  · simp [h2]
  · rw [if_neg h2]
    have hy : 0 < y := by omega
    have hlt := Nat.mod_lt x hy
    by_cases h3 : x < y
    · rw [Nat.mod_eq_of_lt h3, if_pos h3, if_neg (by omega), Nat.mul_comm y x]
      omega
    · rw [if_neg (by omega), if_neg h3]
      have e : y + x % y ≤ x := by
        have := Nat.div_add_mod x y
        have h4 : 1 ≤ x / y := Nat.div_pos (by omega) hy
        have : y * 1 ≤ y * (x / y) := Nat.mul_le_mul_left y h4
        omega
      have e2 : 2 * (y * (x % y)) ≤ x * y := by
        have : 2 * (x % y) ≤ x := by omega
        calc 2 * (y * (x % y)) = y * (2 * (x % y)) := by rw [Nat.mul_left_comm]
          _ ≤ y * x := Nat.mul_le_mul_left y this
          _ = x * y := Nat.mul_comm _ _
      have p1 : y * (x % y) ≠ 0 := Nat.mul_ne_zero (by omega) h2
      have : Nat.log2 (y * (x % y)) + 1 ≤ Nat.log2 (x * y) := by
        rw [← Nat.log2_two_mul p1]
        exact (Nat.le_log2 (by omega)).2 (Nat.le_trans (Nat.log2_self_le (by omega)) e2)
      omega
def low (a b : Int) : PyData := .tuple [.int (a / (Nat.gcd a.natAbs b.natAbs : Nat)), .int (b / (Nat.gcd a.natAbs b.natAbs : Nat))]
theorem c_lowest (hP : P[6]? = some Std.fd_lowest) (hf : 20000 ≤ fuel) (a b : Int) (hb : 0 < b) (hb2 : b.natAbs < 2 ^ 4000) (ha2 : a.natAbs < 2 ^ 4000) :
    callF P gl fuel (n + 1) 6 [.val (.int a), .val (.int b)] = .ok (.v (low a b)) [.val (.int a), .val (.int b)] := by
  rw [callF_eq hP (by rfl)]
  have key := while_sim (ft := callF P gl fuel n) (gl := gl) (fuel := fuel) (w := []) (c := .op2 .ne (.b 3) (.e (.int 0))) (body := .cons (.setT [(false, 2), (false, 3)] (.cons (.var 3) (.cons (.op2 .mod (.b 2) (.b 3)) .nil))) .nil)
    (fun s : Nat × Nat => [.val (.int a), .val (.int b), .val (.int s.1), .val (.int s.2)]) (fun s => Nat.gcd s.1 s.2 = Nat.gcd a.natAbs b.natAbs) (fun s => !decide (s.2 = 0)) gcStep gcM
    (fun s i => by simp [flat_int, eqv_int]) (fun s i g => by
      have g' : s.2 ≠ 0 := by simpa using g
      refine ⟨?_, gcM_step g', ?_⟩
      · rw [← i]; unfold gcStep; simp only; rw [Nat.gcd_comm s.1 s.2, Nat.gcd_rec s.2 s.1, Nat.gcd_comm]
      · have : 0 < s.2 := Nat.pos_of_ne_zero g'
        simp [gcStep, this]) fuel (a.natAbs, b.natAbs) rfl (by
      unfold gcM
      simp only
      split
      · omega
      · rename_i h
        have : Nat.log2 (a.natAbs * b.natAbs) < 8001 := by
          by_cases z : a.natAbs * b.natAbs = 0
          · rw [z]; simp
          · rw [Nat.log2_lt z]
            calc a.natAbs * b.natAbs < 2 ^ 4000 * 2 ^ 4000 := Nat.mul_lt_mul_of_lt_of_le ha2 (Nat.le_of_lt hb2) (by omega)
              _ ≤ 2 ^ 8001 := by rw [← Nat.pow_add]; exact Nat.pow_le_pow_right (by omega) (by omega)
        split <;> omega)
  obtain ⟨k1, k2, k3⟩ := key
  generalize hr : runW (fun s : Nat × Nat => !decide (s.2 = 0)) gcStep fuel (a.natAbs, b.natAbs) = r at k1 k2 k3
  obtain ⟨x, y⟩ := r
  have hy : y = 0 := by simpa using k2
  subst hy
  have hx : x = Nat.gcd a.natAbs b.natAbs := by simpa using k3
  have ab : (if a < 0 then -a else a) = (a.natAbs : Int) := by split <;> omega
  have bb : b = (b.natAbs : Int) := by omega
  have gpos : 0 < Nat.gcd a.natAbs b.natAbs := Nat.gcd_pos_of_pos_right _ (by omega)
  have gle : Nat.gcd a.natAbs b.natAbs < 2 ^ 4000 := Nat.lt_of_le_of_lt (Nat.le_of_dvd (by omega) (Nat.gcd_dvd_right _ _)) hb2
  have hd : divOk (Nat.gcd a.natAbs b.natAbs : Nat) = true := by
    simp only [divOk, Bool.and_eq_true, decide_eq_true_eq, Int.natAbs_natCast]
    exact ⟨by omega, gle⟩
  simp only at k1
  rw [hx] at k1
  rw [← bb] at k1
  simp only [Int.natCast_zero, Int.cast_ofNat_Int] at k1
  simp [Std.fd_lowest, Std.b_lowest, ab, k1, hd, low, szOk]
/-! ### what is drawn -/
structure Dc where
  a : Nat
  b : Nat
  c : Nat
def dc (d : Dc) : List PyData := [.int d.a, .int d.b, .int d.c]
def roll (d : Dc) (t : Nat) : Nat × Dc := if 0 < d.a then (d.a % t, ⟨d.a / t, d.b, d.c⟩) else
  (((d.b * 48271 + (d.c + 1) * (d.c + 1) * 2003 + 91) % 2147480009 / 197) % t, ⟨d.a, (d.b * 48271 + (d.c + 1) * (d.c + 1) * 2003 + 91) % 2147480009, d.c + 1⟩)
theorem roll_lt (d : Dc) {t : Nat} (h : 0 < t) : (roll d t).1 < t := by
  unfold roll
  split <;> exact Nat.mod_lt _ h
theorem roll_c (d : Dc) (t : Nat) : (roll d t).2.c ≤ d.c + 1 := by
  unfold roll
  split <;> simp
theorem mulOk_l {i j : Int} (h : i.natAbs < 2 ^ 64) : mulOk i j = true := by simp [mulOk, h]
theorem mulOk_r {i j : Int} (h : j.natAbs < 2 ^ 64) : mulOk i j = true := by simp [mulOk, h]
theorem divOk_of {j : Int} (h : 0 < j) (h2 : j < 2 ^ 64) : divOk j = true := by
  simp only [divOk, Bool.and_eq_true, decide_eq_true_eq]
  refine ⟨h, Nat.lt_of_lt_of_le (show j.natAbs < 2 ^ 64 by omega) (Nat.pow_le_pow_right (by omega) (by omega))⟩
theorem c_roll (hP : P[8]? = some Std.fd__law_roll) (d : Dc) (t : Int) (h1 : 1 ≤ t) (h2 : t < 2 ^ 60) (hd : d.c < 2 ^ 60) :
    callF P gl fuel (n + 1) 8 [.io (dc d), .val (.int t)] = .ok (.v (.int ((roll d t.toNat).1 : Nat))) [.io (dc (roll d t.toNat).2), .val (.int t)] := by
  rw [callF_eq hP (by rfl)]
  obtain ⟨k, rfl⟩ : ∃ k : Nat, t = k := ⟨t.toNat, by omega⟩
  have hv : divOk (k : Int) = true := divOk_of (by omega) (by omega)
  have hk : 0 < k := by omega
  have m1 : mulOk ((d.b : Int)) 48271 = true := mulOk_r (by decide)
  have m2 : mulOk ((d.c : Int) + 1) ((d.c : Int) + 1) = true := mulOk_r (by omega)
  have m3 : mulOk (((d.c : Int) + 1) * ((d.c : Int) + 1)) 2003 = true := mulOk_r (by decide)
  have v1 : divOk 197 = true := by decide +kernel
  by_cases ha : 0 < d.a
  · simp [Std.fd__law_roll, Std.b__law_roll, dc, roll, ha, hv, hk, L2.atI, L2.ixN]
  · have ha0 : d.a = 0 := by omega
    simp [Std.fd__law_roll, Std.b__law_roll, dc, roll, ha0, hv, hk, L2.atI, L2.ixN, m1, m2, m3, v1]
theorem c_pick_l (h1 : P[8]? = some Std.fd__law_roll) (hP : P[9]? = some Std.fd__law_pick) (d : Dc) (xs : List PyData) (hx : xs ≠ []) (h2 : xs.length < 2 ^ 60) (hd : d.c < 2 ^ 60) :
    ∃ h : (roll d xs.length).1 < xs.length, callF P gl fuel (n + 2) 9 [.io (dc d), .val (.list xs)] = .ok (.v xs[(roll d xs.length).1]) [.io (dc (roll d xs.length).2), .val (.list xs)] := by
  have hl : 0 < xs.length := List.length_pos_iff.2 hx
  refine ⟨roll_lt d hl, ?_⟩
  rw [callF_eq hP (by rfl)]
  have hc := c_roll (gl := gl) (fuel := fuel) (n := n) h1 d (xs.length : Int) (by omega) (by omega) hd
  rw [Int.toNat_natCast] at hc
  simp [Std.fd__law_pick, Std.b__law_pick, hc, ix_nat _ _ (roll_lt d hl)]
theorem c_pick_t (h1 : P[8]? = some Std.fd__law_roll) (hP : P[9]? = some Std.fd__law_pick) (d : Dc) (xs : List PyData) (hx : xs ≠ []) (h2 : xs.length < 2 ^ 60) (hd : d.c < 2 ^ 60) :
    ∃ h : (roll d xs.length).1 < xs.length, callF P gl fuel (n + 2) 9 [.io (dc d), .val (.tuple xs)] = .ok (.v xs[(roll d xs.length).1]) [.io (dc (roll d xs.length).2), .val (.tuple xs)] := by
  have hl : 0 < xs.length := List.length_pos_iff.2 hx
  refine ⟨roll_lt d hl, ?_⟩
  rw [callF_eq hP (by rfl)]
  have hc := c_roll (gl := gl) (fuel := fuel) (n := n) h1 d (xs.length : Int) (by omega) (by omega) hd
  rw [Int.toNat_natCast] at hc
  simp [Std.fd__law_pick, Std.b__law_pick, hc, ix_nat _ _ (roll_lt d hl)]
end
end PL

/-! part PLStd3 -/
set_option Elab.async false
set_option linter.all false
set_option autoImplicit false
set_option maxRecDepth 100000
set_option maxHeartbeats 4000000
/-! what the shared defs of the laws do -/
namespace PL
open PySem
section
variable {P : List Fd} {gl : List PyData} {fuel n : Nat}
theorem c_dice (hP : P[7]? = some Std.fd__law_dice) (ns : List Int) (k : Nat) (hk : k ≤ 1000) : ∃ d : Dc, d.c = 0 ∧
    callF P gl fuel (n + 1) 7 [.val (.list (ns.map .int)), .val (.int (k : Nat))] = .ok (.l (dc d)) [.val (.list (ns.map .int)), .val (.int (k : Nat))] := by
  obtain ⟨own, ho⟩ : ∃ own : Int, own = (if h : k < ns.length then ns[k] else 811 * k + 37) := ⟨_, rfl⟩
  have key := for_rel (ft := callF P gl fuel n) (gl := gl) (fuel := fuel) (w := [4]) (pt := .nm 4) (body := (.cons (.set false 3 (.op2 .mod (.e (.op1 .int1 (.e (.op2 .add (.e (.op2 .mul (.b 3) (.e (.int 69621)))) (.e (.op2 .mod (.e (.op1 .int1 (.b 4))) (.e (.int 2147480009)))))))) (.e (.int 2147480009)))) .nil))
    (fun b : Nat => [.val (.list (ns.map .int)), .val (.int (k : Nat)), .val (.int own), .val (.int (b : Nat)), .non]) (fun (_ : List Int) _ => True) PyData.int (fun y ys s _ => by
      have m1 : mulOk (s : Int) 69621 = true := mulOk_r (by decide)
      refine ⟨((s * 69621 + y % 2147480009) % 2147480009).toNat, trivial, ?_⟩
      have e : (((s * 69621 + y % 2147480009) % 2147480009).toNat : Int) = (s * 69621 + y % 2147480009) % 2147480009 := by omega
      rw [e]
      simp [m1]) (ns.take 6 ++ [own]) (700001 + 6947 * k) trivial
  obtain ⟨b, -, hb⟩ := key
  refine ⟨⟨if own < 0 ∨ own ≥ 10 ^ 16 then own.natAbs else 0, b, 0⟩, rfl, ?_⟩
  rw [callF_eq hP (by rfl)]
  have ab : ∀ z : Int, (if z < 0 then -z else z) = (z.natAbs : Int) := fun z => by split <;> omega
  have hs : cutD (ns.map .int) none (some 6) = (ns.take 6).map .int := by
    rw [List.map_take]
    exact cut_to (ns.map .int) 6
  have m2 : mulOk 811 (k : Int) = true := mulOk_l (by decide)
  have m3 : mulOk 6947 (k : Int) = true := mulOk_l (by decide)
  have hz : szOk (min 6 ns.length + 1) = true := sz_of (by omega)
  have e1 : (700001 : Int) + 6947 * (k : Int) = ((700001 + 6947 * k : Nat) : Int) := by omega
  rw [List.map_append, ← e1] at hb
  simp only [List.map_cons, List.map_nil] at hb
  have hix : ∀ h : k < ns.length, L2.atI (ns.map PyData.int) (k : Int) = some (.int ns[k]) := fun h => by rw [ix_nat _ _ (by simpa using h)]; simp
  have t3 : (10 : Int) ^ 16 = 10000000000000000 := by decide
  by_cases h : k < ns.length
  · rw [dif_pos h] at ho
    subst ho
    by_cases c1 : ns[k] < 0 <;> by_cases c2 : (10000000000000000 : Int) ≤ ns[k] <;>
      (simp [Std.fd__law_dice, Std.b__law_dice, h, hix h, hs, m3, hb, hz, c1, c2, ab, dc, t3, -List.map_take] <;> omega)
  · rw [dif_neg h] at ho
    subst ho
    have c1 : ¬ (811 * (k : Int) + 37 < 0) := by omega
    have c2 : ¬ ((10000000000000000 : Int) ≤ 811 * (k : Int) + 37) := by omega
    simp [Std.fd__law_dice, Std.b__law_dice, h, hs, m2, m3, hb, hz, c1, c2, ab, dc, t3, -List.map_take]
/-- all choices of numbers below a number -/
def chs (m : Nat) : List (List Nat) := (List.range m).foldl (fun f k => f ++ f.map (· ++ [k])) [[]]
theorem chs_len (m : Nat) : (chs m).length = 2 ^ m := by
  unfold chs
  induction m with
  | zero => rfl
  | succ m ih => rw [List.range_succ, List.foldl_append]; simp [ih]; omega
theorem chs_succ (m : Nat) : chs (m + 1) = chs m ++ (chs m).map (· ++ [m]) := by
  unfold chs
  rw [List.range_succ, List.foldl_append]
  rfl
theorem mem_chs_len {m : Nat} {o : List Nat} (h : o ∈ chs m) : o.length ≤ m := by
  induction m generalizing o with
  | zero => simp [chs] at h; simp [h]
  | succ m ih =>
    rw [chs_succ, List.mem_append, List.mem_map] at h
    rcases h with h | ⟨p, h, rfl⟩
    · have := ih h; omega
    · have := ih h; simp; omega
theorem c_choices (hP : P[11]? = some Std.fd__law_choices) (m : Nat) (hm : m ≤ 12) :
    callF P gl fuel (n + 1) 11 [.val (.int (m : Nat))] = .ok (.v (.list ((chs m).map tn))) [.val (.int (m : Nat))] := by
  rw [callF_eq hP (by rfl)]
  have key := for_range (ft := callF P gl fuel n) (gl := gl) (fuel := fuel) (w := [2]) (pt := .nm 2) (body := .cons (.set false 1 (.op2 .add (.b 1) (.e (.comp [3] (.nm 3) (.seq (.b 1)) false .none (.op2 .add (.b 3) (.e (.tup (.cons (.var 2) .nil)))))))) .nil)
    (fun k => [.val (.int (m : Nat)), .val (.list ((chs k).map tn)), .non, .non]) m (fun k hk => by
      have l2 : 2 ^ k ≤ 4096 := Nat.pow_le_pow_right (by omega) (by omega : k ≤ 12)
      have e := comp_map (ft := callF P gl fuel n) (gl := gl) (own := [3]) (pt := .nm 3) (hc := false) (c := .none) (e := .op2 .add (.b 3) (.e (.tup (.cons (.var 2) .nil)))) (en := [.val (.int (m : Nat)), .val (.list ((chs k).map tn)), .val (.int (k : Nat)), .non])
        tn (fun o => tn (o ++ [k])) (chs k) fun o ho => by
          have := mem_chs_len ho
          have hz : szOk (o.length + 1) = true := sz_of (by omega)
          simp [tn, hz]
      have h1 : szOk (chs k).length = true := sz_of (by rw [chs_len]; omega)
      have h2 : szOk ((chs k).length + (chs k).length) = true := sz_of (by rw [chs_len]; omega)
      simp [chs_succ, e, h1, h2])
  have h0 : rng1 (.int (m : Int)) = some ((List.range m).map fun i : Nat => .int (i : Int)) := by rw [rng1_eq (sm_nat (by omega))]; simp
  simp only [chs, List.range_zero, List.foldl_nil, List.map_cons, List.map_nil, tn] at key
  simp [Std.fd__law_choices, Std.b__law_choices, h0, key, chs, tn]
/-- one longer, in all ways -/
def exts (ts o : List Nat) : List (List Nat) := (ts.filter fun k => !decide (k ∈ o)).map fun k => o ++ [k]
def ordT (ts : List Nat) : Nat → List (List Nat)
  | 0 => [[]]
  | t + 1 => (ordT ts t).flatMap (exts ts)
theorem ordT_olen {ts : List Nat} {t : Nat} {o : List Nat} (h : o ∈ ordT ts t) : o.length = t := by
  induction t generalizing o with
  | zero => simp [ordT] at h; simp [h]
  | succ t ih =>
    simp only [ordT, List.mem_flatMap, exts, List.mem_map] at h
    obtain ⟨p, hp, k, _, rfl⟩ := h
    simp [ih hp]
theorem exts_len (ts o : List Nat) : (exts ts o).length ≤ ts.length := by
  simp only [exts, List.length_map]
  exact List.length_filter_le _ _
theorem flat_len {α β : Type} (f : α → List β) (c : Nat) (hf : ∀ x, (f x).length ≤ c) : ∀ xs : List α, (xs.flatMap f).length ≤ xs.length * c
  | [] => by simp
  | x :: xs => by
    have := flat_len f c hf xs
    have := hf x
    simp only [List.flatMap_cons, List.length_append, List.length_cons, Nat.add_mul]
    omega
theorem ordT_len (ts : List Nat) (t : Nat) : (ordT ts t).length ≤ ts.length ^ t := by
  induction t with
  | zero => simp [ordT]
  | succ t ih =>
    have := flat_len (exts ts) ts.length (exts_len ts) (ordT ts t)
    rw [ordT, Nat.pow_succ]
    exact Nat.le_trans this (Nat.mul_le_mul_right _ ih)
theorem take_flat {α β : Type} (f : α → List β) (xs : List α) (k : Nat) (h : k < xs.length) : (xs.take (k + 1)).flatMap f = (xs.take k).flatMap f ++ f xs[k] := by
  rw [List.take_succ_eq_append_getElem h, List.flatMap_append]
  simp
theorem ord_bnd {ts : List Nat} (ht : ts.length ≤ 6) {t : Nat} (h : t ≤ ts.length) : ts.length ^ t ≤ 46656 := by
  calc ts.length ^ t ≤ 6 ^ t := Nat.pow_le_pow_left ht t
    _ ≤ 6 ^ 6 := Nat.pow_le_pow_right (by omega) (by omega)
    _ = 46656 := by decide
theorem c_orders (hP : P[12]? = some Std.fd__law_orders) (m : Nat) (hm : m ≤ 6) (h0 : rng1 (.int (m : Int)) = some ((List.range m).map fun i : Nat => .int (i : Int))) :
    callF P gl fuel (n + 1) 12 [.val (.int (m : Nat))] = .ok (.v (.list ((ordT (List.range m) m).map tn))) [.val (.int (m : Nat))] := by
  rw [callF_eq hP (by rfl)]
  have hl : ((List.range m)).length = m := by simp
  have key := for_ix (ft := callF P gl fuel n) (gl := gl) (fuel := fuel) (w := [2, 3, 4]) (pt := .nm 2) (body := .cons (.set false 3 (.lst .nil)) (.cons (.forS (.nm 4) (.seq (.e (.var 1))) (.cons (.set false 3 (.op2 .add (.b 3) (.e (.comp [5] (.nm 5) (.r1 (.var 0)) true (.op2 .nin (.b 5) (.b 4)) (.op2 .add (.b 4) (.e (.tup (.cons (.var 5) .nil)))))))) .nil) [4]) (.cons (.set false 1 (.var 3)) .nil)))
    (fun i : Nat => .int (i : Int)) (fun t => [.val (.int (m : Nat)), .val (.list ((ordT (List.range m) t).map tn)), .non, .non, .non, .non]) (List.range m) (fun t ht => by
      generalize (List.range m)[t] = v
      have bt := Nat.le_trans (ordT_len (List.range m) t) (ord_bnd (by omega) (by omega))
      have bt1 := Nat.le_trans (ordT_len (List.range m) (t + 1)) (ord_bnd (by omega) (by omega))
      have inner := for_ix (ft := callF P gl fuel n) (gl := gl) (fuel := fuel) (w := [4]) (pt := .nm 4) (body := .cons (.set false 3 (.op2 .add (.b 3) (.e (.comp [5] (.nm 5) (.r1 (.var 0)) true (.op2 .nin (.b 5) (.b 4)) (.op2 .add (.b 4) (.e (.tup (.cons (.var 5) .nil)))))))) .nil)
        tn (fun k => [.val (.int (m : Nat)), .val (.list ((ordT (List.range m) t).map tn)), .val (.int (v : Nat)), .val (.list ((((ordT (List.range m) t).take k).flatMap (exts (List.range m))).map tn)), .non, .non]) (ordT (List.range m) t) (fun k hk => by
          generalize ho : (ordT (List.range m) t)[k] = o
          have ol : o.length = t := ordT_olen (ts := (List.range m)) (by rw [← ho]; exact List.getElem_mem hk)
          have hz : szOk (o.length + 1) = true := sz_of (by omega)
          have e := comp_sim (ft := callF P gl fuel n) (gl := gl) (own := [5]) (pt := .nm 5) (hc := true) (c := .op2 .nin (.b 5) (.b 4)) (e := .op2 .add (.b 4) (.e (.tup (.cons (.var 5) .nil))))
            (en := [.val (.int (m : Nat)), .val (.list ((ordT (List.range m) t).map tn)), .val (.int (v : Nat)), .val (.list ((((ordT (List.range m) t).take k).flatMap (exts (List.range m))).map tn)), .val (tn o), .non])
            (fun i : Nat => .int (i : Int)) (fun i => !decide (i ∈ o)) (fun i => tn (o ++ [i])) (List.range m) fun i hi => by
              by_cases hm : i ∈ o <;> simp [tn, hz, flat_int, any_nat, hm, -List.any_map]
          have ee : (((List.range m)).filter fun i => !decide (i ∈ o)).map (fun i => tn (o ++ [i])) = (exts (List.range m) o).map tn := by simp [exts]
          rw [ee] at e
          have z1 : szOk (exts (List.range m) o).length = true := sz_of (by have := exts_len (List.range m) o; omega)
          have z2 : szOk ((((ordT (List.range m) t).take k).flatMap (exts (List.range m))).length + (exts (List.range m) o).length) = true := sz_of (by
            have := flat_len (exts (List.range m)) ((List.range m)).length (exts_len (List.range m)) ((ordT (List.range m) t).take k)
            have b := exts_len (List.range m) o
            have c : ((ordT (List.range m) t).take k).length ≤ 46656 := by rw [List.length_take]; omega
            have := Nat.mul_le_mul_right ((List.range m)).length c
            omega)
          rw [take_flat _ _ _ hk, ho]
          simp [h0, e, z1, z2, -List.length_flatMap])
      rw [List.take_zero, List.flatMap_nil, List.map_nil, List.take_length] at inner
      simp [inner, ordT])
  rw [hl] at key
  simp only [ordT, List.map_cons, List.map_nil, tn] at key
  simp [Std.fd__law_orders, Std.b__law_orders, h0, key, tn]
theorem c_orders2 (hP : P[13]? = some Std.fd__law_orders2) (ts : List Nat) (hm : ts.length ≤ 6) :
    callF P gl fuel (n + 1) 13 [.val (tn ts)] = .ok (.v (.list ((ordT ts ts.length).map tn))) [.val (tn ts)] := by
  rw [callF_eq hP (by rfl)]
  have hl : (ts).length = ts.length := by simp
  have key := for_ix (ft := callF P gl fuel n) (gl := gl) (fuel := fuel) (w := [2, 3, 4]) (pt := .nm 2) (body := .cons (.set false 3 (.lst .nil)) (.cons (.forS (.nm 4) (.seq (.e (.var 1))) (.cons (.set false 3 (.op2 .add (.b 3) (.e (.comp [5] (.nm 5) (.seq (.b 0)) true (.op2 .nin (.b 5) (.b 4)) (.op2 .add (.b 4) (.e (.tup (.cons (.var 5) .nil)))))))) .nil) [4]) (.cons (.set false 1 (.var 3)) .nil)))
    (fun i : Nat => .int (i : Int)) (fun t => [.val (tn ts), .val (.list ((ordT ts t).map tn)), .non, .non, .non, .non]) ts (fun t ht => by
      generalize ts[t] = v
      have bt := Nat.le_trans (ordT_len ts t) (ord_bnd (by omega) (by omega))
      have bt1 := Nat.le_trans (ordT_len ts (t + 1)) (ord_bnd (by omega) (by omega))
      have inner := for_ix (ft := callF P gl fuel n) (gl := gl) (fuel := fuel) (w := [4]) (pt := .nm 4) (body := .cons (.set false 3 (.op2 .add (.b 3) (.e (.comp [5] (.nm 5) (.seq (.b 0)) true (.op2 .nin (.b 5) (.b 4)) (.op2 .add (.b 4) (.e (.tup (.cons (.var 5) .nil)))))))) .nil)
        tn (fun k => [.val (tn ts), .val (.list ((ordT ts t).map tn)), .val (.int (v : Nat)), .val (.list ((((ordT ts t).take k).flatMap (exts ts)).map tn)), .non, .non]) (ordT ts t) (fun k hk => by
          generalize ho : (ordT ts t)[k] = o
          have ol : o.length = t := ordT_olen (ts := ts) (by rw [← ho]; exact List.getElem_mem hk)
          have hz : szOk (o.length + 1) = true := sz_of (by omega)
          have e := comp_sim (ft := callF P gl fuel n) (gl := gl) (own := [5]) (pt := .nm 5) (hc := true) (c := .op2 .nin (.b 5) (.b 4)) (e := .op2 .add (.b 4) (.e (.tup (.cons (.var 5) .nil))))
            (en := [.val (tn ts), .val (.list ((ordT ts t).map tn)), .val (.int (v : Nat)), .val (.list ((((ordT ts t).take k).flatMap (exts ts)).map tn)), .val (tn o), .non])
            (fun i : Nat => .int (i : Int)) (fun i => !decide (i ∈ o)) (fun i => tn (o ++ [i])) ts fun i hi => by
              by_cases hm : i ∈ o <;> simp [tn, hz, flat_int, any_nat, hm, -List.any_map]
          have ee : ((ts).filter fun i => !decide (i ∈ o)).map (fun i => tn (o ++ [i])) = (exts ts o).map tn := by simp [exts]
          rw [ee] at e
          have z1 : szOk (exts ts o).length = true := sz_of (by have := exts_len ts o; omega)
          have z2 : szOk ((((ordT ts t).take k).flatMap (exts ts)).length + (exts ts o).length) = true := sz_of (by
            have := flat_len (exts ts) (ts).length (exts_len ts) ((ordT ts t).take k)
            have b := exts_len ts o
            have c : ((ordT ts t).take k).length ≤ 46656 := by rw [List.length_take]; omega
            have := Nat.mul_le_mul_right (ts).length c
            omega)
          rw [take_flat _ _ _ hk, ho]
          simp [seqOf_tn, e, z1, z2, -List.length_flatMap])
      rw [List.take_zero, List.flatMap_nil, List.map_nil, List.take_length] at inner
      simp [inner, ordT])
  rw [hl] at key
  simp only [ordT, List.map_cons, List.map_nil] at key
  rw [show tn [] = .tuple [] from rfl] at key
  simp [Std.fd__law_orders2, Std.b__law_orders2, seqOf_tn, key]
theorem erase_map {α β : Type} (f : α → β) : ∀ (xs : List α) (r : Nat), (xs.map f).eraseIdx r = (xs.eraseIdx r).map f
  | [], _ => rfl
  | _ :: _, 0 => rfl
  | x :: xs, r + 1 => by simp [erase_map f xs r]
theorem perm_erase (xs : List Nat) (r : Nat) (h : r < xs.length) : (xs[r] :: xs.eraseIdx r).Perm xs := by
  induction xs generalizing r with
  | nil => simp at h
  | cons x xs ih =>
    cases r with
    | zero => simp
    | succ r =>
      simp only [List.getElem_cons_succ, List.eraseIdx_cons_succ]
      exact (List.Perm.swap x _ _).trans ((ih r (by simpa using h)).cons x)
theorem c_order (h1 : P[8]? = some Std.fd__law_roll) (hP : P[10]? = some Std.fd__law_order) (d : Dc) (m : Nat) (hm : m ≤ 1000) (hd : d.c < 2 ^ 59) :
    ∃ (o : List Nat) (d' : Dc), o.Perm (List.range m) ∧ d'.c ≤ d.c + m ∧ callF P gl fuel (n + 2) 10 [.io (dc d), .val (.int (m : Nat))] = .ok (.v (tn o)) [.io (dc d'), .val (.int (m : Nat))] := by
  have key := for_rel (ft := callF P gl fuel (n + 1)) (gl := gl) (fuel := fuel) (w := [2]) (pt := .nm 2) (body := .cons (.set false 4 (.op2 .add (.b 4) (.e (.tup (.cons (.pop 3 (.callIo 8 0 (.cons (.op1 .len (.b 3)) .nil))) .nil))))) .nil)
    (fun s : List Nat × List Nat × Dc => [.io (dc s.2.2), .val (.int (m : Nat)), .non, .own (s.1.map fun i : Nat => .int (i : Int)), .val (tn s.2.1)])
    (fun (ys : List Nat) s => (s.2.1 ++ s.1).Perm (List.range m) ∧ s.1.length = ys.length ∧ s.2.2.c + ys.length ≤ d.c + m ∧ ys.length ≤ m) (fun i : Nat => .int (i : Int)) (fun y ys s i => by
      obtain ⟨left, found, d1⟩ := s
      obtain ⟨i1, i2, i3, i4⟩ := i
      simp only at i1 i2 i3
      simp only [List.length_cons] at i2 i3 i4
      have hr := roll_lt d1 (show 0 < left.length by omega)
      have hc := c_roll (gl := gl) (fuel := fuel) (n := n) h1 d1 (left.length : Int) (by omega) (by omega) (by omega)
      rw [Int.toNat_natCast] at hc
      have hk := roll_c d1 left.length
      generalize hrr : roll d1 left.length = r at hr hc hk
      have hp := perm_erase left r.1 hr
      refine ⟨(left.eraseIdx r.1, found ++ [left[r.1]], r.2), ⟨?_, ?_, ?_, by omega⟩, ?_⟩
      · show ((found ++ [left[r.1]]) ++ left.eraseIdx r.1).Perm _
        rw [List.append_assoc]
        exact (List.Perm.append_left found hp).trans i1
      · show (left.eraseIdx r.1).length = _
        rw [List.length_eraseIdx_of_lt hr]; omega
      · show r.2.c + _ ≤ _
        omega
      · have fl : found.length ≤ m := by
          have := i1.length_eq
          simp at this; omega
        have hz : szOk (found.length + 1) = true := sz_of (by omega)
        have e1 : L2.ixN (left.map fun i : Nat => PyData.int (i : Int)).length ((r.1 : Nat) : Int) = some r.1 := ixN_nat _ _ (by simpa using hr)
        have e2 : (left.map fun i : Nat => PyData.int (i : Int))[r.1]? = some (.int (left[r.1] : Nat)) := by simp [hr]
        have e3 : smallI ((r.1 : Nat) : Int) = true := sm_nat (by omega)
        rw [List.length_map] at e1
        simp [hc, e1, hr, e3, s2_add_tn _ _ hz, erase_map]) (List.range m) (List.range m, [], d) ⟨by simp, by simp, by simp, by simp⟩
  obtain ⟨⟨left, found, d'⟩, ⟨i1, i2, i3, i4⟩, e⟩ := key
  simp only [List.length_nil] at i2 i3
  have hl : left = [] := List.length_eq_zero_iff.1 i2
  subst hl
  refine ⟨found, d', by simpa using i1, by simpa using i3, ?_⟩
  rw [callF_eq hP (by rfl)]
  have h0 : rng1 (.int (m : Int)) = some ((List.range m).map fun i : Nat => .int (i : Int)) := by rw [rng1_eq (sm_nat (by omega))]; simp
  have hz : szOk m = true := sz_of (by omega)
  simp only [List.map_nil] at e
  rw [show tn [] = .tuple [] from rfl] at e
  simp [Std.fd__law_order, Std.b__law_order, h0, e, hz]
end
end PL

/-! part PLX -/
set_option Elab.async false
set_option linter.all false
set_option autoImplicit false
set_option maxRecDepth 100000
set_option maxHeartbeats 4000000
/-! more rules: index, while with a return, sorted, min, two fors -/
namespace PL
open PySem
@[simp] theorem meS_tn (o : Op2) (v : PyData) (xs : List Nat) : meS o v (tn xs) = sem2 o (tn xs) v := rfl
@[simp] theorem meQ_tn (o : Op2) (i : Nat) (t : Out RV) (xs : List Nat) : meQ o i t (some (tn xs)) = meC true o i t := rfl
@[simp] theorem semM_tn (o : Op2) (xs : List Nat) (v : PyData) : semM true o (tn xs) v = sem2 o (tn xs) v := rfl
@[simp] theorem meT_tn (o : Op2) (t : Out RV) (xs : List Nat) : meT o t (tn xs) = meR true o (tn xs) t := rfl
theorem find_nat (xs : List Nat) (h : Nat) (hm : h ∈ xs) : ((xs.map fun i : Nat => PyData.int (i : Int)).findIdx? fun z => PyData.eqv z (.int (h : Int))) = some (xs.idxOf h) := by
  rw [List.findIdx?_eq_some_iff_getElem]
  have hl := List.idxOf_lt_length_of_mem hm
  refine ⟨by simpa using hl, by simp [eqv_int, List.getElem_idxOf hl], fun j hj => ?_⟩
  have h1 := List.not_of_lt_findIdx (p := (· == h)) (xs := xs) hj
  have h2 : ¬ (xs[j]'(Nat.lt_trans hj hl) = h) := by simpa using h1
  simp only [List.getElem_map, eqv_int, decide_eq_true_eq]
  intro e
  exact h2 (by omega)
theorem ix_index_tn (xs : List Nat) (h : Nat) (hm : h ∈ xs) : sem2 .index (tn xs) (.int (h : Int)) = some (.v (.int (xs.idxOf h : Nat))) := by
  rw [tn, q2_indexT, if_pos (flat_int _), find_nat xs h hm]
  rfl
theorem ix_index_ln (xs : List Nat) (h : Nat) (hm : h ∈ xs) : sem2 .index (.list (xs.map fun i : Nat => .int (i : Int))) (.int (h : Int)) = some (.v (.int (xs.idxOf h : Nat))) := by
  rw [q2_index, if_pos (flat_int _), find_nat xs h hm]
  rfl
section
variable {σ : Type} {ft : FT} {gl : List PyData} {fuel : Nat}
/-- a while loop that ends by a return -/
theorem while_ret {w : List Nat} {c : E} {body : Ss} (enc : σ → En) (I : σ → Prop) (go : σ → Bool) (step : σ → σ) (m : σ → Nat) (r : σ → RV) (re : σ → En)
    (hc : ∀ s, I s → tst (evE ft gl c (enc s)) = .ok true (enc s))
    (hs : ∀ s, I s → go s = true → I (step s) ∧ m (step s) < m s ∧ fgO w (exSs ft gl fuel body (enc s)) = .nx (enc (step s)))
    (he : ∀ s, I s → go s = false → exSs ft gl fuel body (enc s) = .ret (r s) (re s)) : ∀ (k : Nat) (s : σ) (_ : I s) (_ : m s < k),
    whileE ft gl fuel w c body k (enc s) = .ret (r (runW go step k s)) (re (runW go step k s)) ∧ go (runW go step k s) = false ∧ I (runW go step k s)
  | 0, s, _, hm => by omega
  | n + 1, s, i, hm => by
    unfold whileE
    rw [whileLoop, hc s i]
    cases hg : go s with
    | false => simp [runW, hg, i, he s i hg]
    | true =>
      obtain ⟨h1, h2, h3⟩ := hs s i hg
      have := while_ret enc I go step m r re hc hs he n (step s) h1 (by omega)
      unfold whileE at this
      cases hx : exSs ft gl fuel body (enc s) with
      | nx e2 =>
        rw [hx] at h3
        simp only [fgO, SOut.nx.injEq] at h3
        simp only [hx, h3, runW, hg, if_true]
        exact this
      | _ => rw [hx] at h3; simp [fgO] at h3
end
/-! ### sorted -/
theorem all_flat_int (xs : List Int) : sortOk (xs.map .int) = true := by
  have := depA_int xs
  simp only [sortOk, alike_ints, Bool.true_and, Bool.and_eq_true, flatA, decide_eq_true_eq, Bool.or_eq_true]
  refine ⟨by omega, .inr (.inl ?_)⟩
  simp [isNone, isTup]
theorem sortD_ints (xs : List Int) : sortD (xs.map .int) = (xs.mergeSort fun a b => decide (a ≤ b)).map .int := by
  unfold sortD
  rw [List.map_mergeSort (s := W.dataLe false id) (f := PyData.int)]
  intro a _ b _
  show decide (a ≤ b) = !W.dataLt (.int b) (.int a)
  rw [W.dataLt_int]
  by_cases h : b < a
  · have h' : ¬ a ≤ b := by omega
    simp [h, h']
  · have h' : a ≤ b := by omega
    simp [h, h']
/-- a list without doubles, sorted -/
theorem srt_eq {S T : List Nat} (hS : S.Nodup) (hT : T.Pairwise (· < ·)) (h : ∀ x, x ∈ S ↔ x ∈ T) : sem1 .sorted (.list (S.map fun i : Nat => .int (i : Int))) = some (.l (T.map fun i : Nat => .int (i : Int))) := by
  have hT' : T.Nodup := hT.imp fun h => by omega
  have hp : S.Perm T := (List.perm_ext_iff_of_nodup hS hT').2 h
  rw [nat_ints, nat_ints, q1_sorl, all_flat_int, if_pos rfl, sortD_ints]
  congr 3
  refine List.Perm.eq_of_pairwise (le := fun a b : Int => a ≤ b) (fun a b _ _ h1 h2 => by omega) ?_ ?_ ((List.mergeSort_perm _ _).trans (hp.map _))
  · have := List.pairwise_mergeSort (le := fun a b : Int => decide (a ≤ b)) (fun a b c h1 h2 => by simp at *; omega) (fun a b => by simp; omega) (S.map fun i : Nat => (i : Int))
    exact this.imp fun h => by simpa using h
  · rw [List.pairwise_map]
    exact hT.imp fun h => by omega
/-! ### min -/
theorem min_is {e : PyData} : ∀ {xs : List PyData} {x : PyData}, e ∈ x :: xs → (∀ y ∈ x :: xs, y = e ∨ (W.dataLt e y = true ∧ W.dataLt y e = false)) → W.dataLt e e = false → W.minD x xs = e
  | [], x, h, _, _ => by
    have : e = x := by simpa using h
    rw [this]; rfl
  | y :: ys, x, h, hl, hr => by
    have ih := fun z hz hy => min_is (e := e) (xs := ys) (x := z) hz hy hr
    unfold W.minD at ih ⊢
    rw [List.foldl_cons]
    have hx := hl x List.mem_cons_self
    have hy := hl y (List.mem_cons_of_mem _ List.mem_cons_self)
    have rest : ∀ z, (z = x ∨ z = y) → ∀ u ∈ z :: ys, u = e ∨ (W.dataLt e u = true ∧ W.dataLt u e = false) := fun z hz u hu => by
      rcases List.mem_cons.1 hu with rfl | hu
      · rcases hz with rfl | rfl
        · exact hx
        · exact hy
      · exact hl u (by simp [hu])
    by_cases c : W.dataLt y x = true
    · rw [if_pos c]
      refine ih y ?_ (rest y (.inr rfl))
      rcases List.mem_cons.1 h with rfl | h
      · rcases hy with rfl | ⟨_, h2⟩
        · exact List.mem_cons_self
        · rw [h2] at c; cases c
      · exact h
    · rw [if_neg c]
      refine ih x ?_ (rest x (.inl rfl))
      rcases List.mem_cons.1 h with rfl | h
      · exact List.mem_cons_self
      · rcases List.mem_cons.1 h with rfl | h
        · rcases hx with rfl | ⟨h1, _⟩
          · exact List.mem_cons_self
          · exact absurd h1 c
        · exact List.mem_cons_of_mem _ h
theorem dataLt_ti (xs ys : List Int) : W.dataLt (ti xs) (ti ys) = decide (xs < ys) := by
  rw [ti, ti, W.dataLt_tuple]
  exact W.dataLt_ints xs ys
theorem alike_int_all : ∀ (xs ys : List Int), W.alikeAll (xs.map .int) (ys.map .int) = true
  | [], _ => by simp [W.alikeAll]
  | _ :: _, [] => by simp [W.alikeAll]
  | x :: xs, y :: ys => by simp [W.alikeAll, W.alike, alike_int_all xs ys]
theorem alike_ti (xs ys : List Int) : W.alike (ti xs) (ti ys) = true := by
  simp [ti, W.alike, alike_int_all]
theorem alike_tn (xs ys : List Nat) : W.alike (tn xs) (tn ys) = true := by rw [tn_ti, tn_ti, alike_ti]
/-- (int, tuple of numbers) -/
def it (p : Int × List Nat) : PyData := .tuple [.int p.1, tn p.2]
theorem it_mk (a : Int) (o : List Nat) : PyData.tuple [.int a, tn o] = it (a, o) := rfl
theorem alike_it (p q : Int × List Nat) : W.alike (it p) (it q) = true := by
  simp [it, W.alike, W.alikeAll, alike_tn]
theorem castL_lt : ∀ (xs ys : List Nat), ((xs.map fun i : Nat => (i : Int)) < (ys.map fun i : Nat => (i : Int))) ↔ xs < ys
  | [], [] => by simp
  | [], y :: ys => by simp
  | x :: xs, [] => by simp
  | x :: xs, y :: ys => by
    have := castL_lt xs ys
    simp only [List.map_cons, List.cons_lt_cons_iff, this]
    constructor
    · rintro (h | ⟨h, h2⟩)
      · exact .inl (by omega)
      · exact .inr ⟨by omega, h2⟩
    · rintro (h | ⟨h, h2⟩)
      · exact .inl (by omega)
      · exact .inr ⟨by omega, h2⟩
theorem dataLt_it (p q : Int × List Nat) : W.dataLt (it p) (it q) = decide (p.1 < q.1 ∨ (p.1 = q.1 ∧ p.2 < q.2)) := by
  rw [it, it, W.dataLt_pair (by simp [W.alike]) (alike_tn _ _), W.dataLt_int, tn_ti, tn_ti, dataLt_ti]
  simp only [eqv_int, eqv_ti, decide_eq_true_eq]
  rw [Bool.eq_iff_iff]
  by_cases h1 : p.1 = q.1
  · rw [if_pos h1]
    by_cases h2 : p.2 = q.2
    · simp [h2, h1]
    · have : ¬ (p.2.map fun i : Nat => (i : Int)) = q.2.map fun i : Nat => (i : Int) := fun h => h2 (castL_inj.1 h)
      rw [if_neg this]
      simp [castL_lt, h1]
  · rw [if_neg h1]
    simp [h1]
theorem depA_it : ∀ {xs : List (Int × List Nat)}, PyData.depthAll (xs.map it) ≤ 3
  | [] => by simp [PyData.depthAll]
  | x :: xs => by
    have := depA_it (xs := xs)
    have h := depA_int (x.2.map fun i : Nat => (i : Int))
    simp only [List.map_cons, PyData.depthAll]
    have : (it x).depth ≤ 3 := by
      simp only [it, PyData.depth, PyData.depthAll, tn_ti, ti]
      omega
    omega
theorem cmpOk_it (xs : List (Int × List Nat)) : cmpOk (xs.map it) = true := by
  have := depA_it (xs := xs)
  simp only [cmpOk, Bool.and_eq_true, flatA, decide_eq_true_eq, alikeL, List.all_eq_true, List.mem_map]
  refine ⟨⟨?_, ?_⟩, by omega⟩
  · rintro _ ⟨a, _, rfl⟩ _ ⟨b, _, rfl⟩
    exact alike_it a b
  · rintro _ ⟨a, _, rfl⟩
    rfl
/-- the least pair -/
theorem q1_min_it {xs : List (Int × List Nat)} {e : Int × List Nat} (h : e ∈ xs) (hl : ∀ y ∈ xs, y = e ∨ e.1 < y.1 ∨ (e.1 = y.1 ∧ e.2 < y.2)) : sem1 .min (.list (xs.map it)) = some (.v (it e)) := by
  cases xs with
  | nil => cases h
  | cons x xs =>
    rw [List.map_cons, q1_minl, ← List.map_cons, cmpOk_it, if_pos rfl]
    have irr : ∀ o : List Nat, ¬ o < o := fun o => List.lt_irrefl o
    rw [min_is (e := it e) (by rw [← List.map_cons]; exact List.mem_map_of_mem h) (fun y hy => ?_) (by rw [dataLt_it]; simp [irr])]
    rw [← List.map_cons, List.mem_map] at hy
    obtain ⟨z, hz, rfl⟩ := hy
    rcases hl z hz with rfl | h1
    · exact .inl rfl
    · refine .inr ⟨by rw [dataLt_it]; simpa using h1, ?_⟩
      rw [dataLt_it]
      simp only [decide_eq_false_iff_not]
      rintro (h2 | ⟨h2, h3⟩)
      · omega
      · rcases h1 with h1 | ⟨_, h1⟩
        · omega
        · exact List.lt_irrefl _ (List.lt_trans h1 h3)
section
variable {ft : FT} {gl : List PyData} {fuel : Nat}
/-- found[k] += .. -/
theorem augI_of {i : Nat} {ix e : E} {env : En} {xs : List PyData} {k : Nat} {a b : Int} (h0 : rdM i env = some xs) (h1 : evE ft gl ix env = .ok (.v (.int (k : Int))) env) (hk : k < xs.length) (ha : xs[k]? = some (.int a)) (h2 : evE ft gl e env = .ok (.v (.int b)) env) :
    exS ft gl fuel (.augI i ix e) env = .nx (wrM i (xs.set k (.int (a + b))) env) := by
  simp only [exS, h0, h1, Option.isNone_some, Bool.false_eq_true, if_false, SOut.of, RV.d, ixN_nat _ _ hk, ha, h2]
/-- [x] * n -/
theorem rep_of {x n : E} {d : PyData} {env : En} {k : Int} (h1 : evE ft gl x env = .ok (.v d) env) (h2 : evE ft gl n env = .ok (.v (.int k)) env) (hk : 0 ≤ k) (hk2 : k ≤ 1000) : evE ft gl (.repL (.cons x .nil) n) env = .ok (.l (List.replicate k.toNat d)) env := by
  have q : 0 ≤ k ∧ k ≤ 1000 := ⟨hk, hk2⟩
  simp [evE, evEs, h1, h2, Out.bind, RV.d, q]
end
/-! ### fractions, compared by the law -/
def bg (a : Int) : Bool := decide (a.natAbs < 2 ^ 900)
theorem bg_lt {a : Int} (h : bg a = true) : a.natAbs < 2 ^ 900 := of_decide_eq_true h
theorem bg_mul {a b : Int} (ha : bg a = true) (hb : bg b = true) : mulOk a b = true := by
  have h1 := bg_lt ha
  have h2 := bg_lt hb
  have : (2 : Nat) ^ 900 ≤ 2 ^ 4000 := Nat.pow_le_pow_right (by omega) (by omega)
  simp only [mulOk, Bool.or_eq_true, Bool.and_eq_true, decide_eq_true_eq]
  exact .inr ⟨by omega, by omega⟩
def sameB (x : Int × Int) (p q : Int) : Bool := bg x.1 && (bg x.2 && (bg p && (bg q && (decide (0 < x.2) && (decide (Nat.gcd x.1.natAbs x.2.natAbs = 1) && decide (x.1 * q = p * x.2))))))
theorem c_sameS {P : List Fd} {gl : List PyData} {fuel n : Nat} (hP : P[14]? = some Std.fd__law_same) {x : Int × Int} {p q : Int} (h : sameB x p q = true) : callF P gl fuel (n + 1) 14 [.val (fr x), .val (.int p), .val (.int q)] = .ok (.v (.bool true)) [.val (fr x), .val (.int p), .val (.int q)] := by
  simp only [sameB, Bool.and_eq_true, decide_eq_true_eq] at h
  obtain ⟨c1, c2, c4, c5, c3, c6, c7⟩ := h
  have b1 := bg_lt c1
  have b2 := bg_lt c2
  rw [callF_eq hP (by rfl)]
  have r : rng1 (.int 4000) = some ((List.range 4000).map fun i : Nat => .int (i : Int)) := rng1_nat (m := 4000) (by omega)
  have ab : (if x.1 < 0 then -x.1 else x.1) = (x.1.natAbs : Int) := by split <;> omega
  have bb : x.2 = (x.2.natAbs : Int) := by omega
  obtain ⟨k1, k2⟩ := for_brk (ft := callF P gl fuel n) (gl := gl) (fuel := fuel) (w := [3]) (pt := .nm 3) (body := .cons (.ifS (.op2 .eq (.b 5) (.e (.int 0))) (.cons .brk .nil) .nil) (.cons (.setT [(false, 4), (false, 5)] (.cons (.var 5) (.cons (.op2 .mod (.e (.op1 .int1 (.b 4))) (.b 5)) .nil))) .nil))
    (fun s : Nat × Nat => [.val (fr x), .val (.int p), .val (.int q), .non, .val (.int s.1), .val (.int s.2)]) (fun s => Nat.gcd s.1 s.2 = Nat.gcd x.1.natAbs x.2.natAbs) (fun i : Nat => PyData.int (i : Int)) (fun s => !decide (s.2 = 0)) gcStep
    (fun y s i g => by
      have g' : s.2 ≠ 0 := by simpa using g
      have g2 : 0 < s.2 := Nat.pos_of_ne_zero g'
      refine ⟨?_, ?_⟩
      · rw [← i]; unfold gcStep; simp only; rw [Nat.gcd_comm s.1 s.2, Nat.gcd_rec s.2 s.1, Nat.gcd_comm]
      · simp [gcStep, g', g2, flat_int, eqv_int])
    (fun y s i g => by
      have g' : s.2 = 0 := by simpa using g
      simp [g', flat_int, eqv_int]) (List.range 4000) (x.1.natAbs, x.2.natAbs) rfl
  have k3 := runW_ge (fun s : Nat × Nat => !decide (s.2 = 0)) gcStep gcM (fun s g => gcM_step (by simpa using g)) 4000 (x.1.natAbs, x.2.natAbs) (by
    unfold gcM
    simp only
    split
    · omega
    · rename_i hh
      have : Nat.log2 (x.1.natAbs * x.2.natAbs) < 1801 := by
        by_cases z : x.1.natAbs * x.2.natAbs = 0
        · rw [z]; simp
        · rw [Nat.log2_lt z]
          calc x.1.natAbs * x.2.natAbs < 2 ^ 900 * 2 ^ 900 := Nat.mul_lt_mul_of_lt_of_le b1 (Nat.le_of_lt b2) (by omega)
            _ ≤ 2 ^ 1801 := by rw [← Nat.pow_add]; exact Nat.pow_le_pow_right (by omega) (by omega)
      split <;> omega)
  rw [List.length_range] at k1 k2
  generalize hr : runW (fun s : Nat × Nat => !decide (s.2 = 0)) gcStep 4000 (x.1.natAbs, x.2.natAbs) = r' at k1 k2 k3
  obtain ⟨u, v⟩ := r'
  have hv : v = 0 := by
    rcases k3 with k3 | k3
    · simpa using k3
    · unfold gcM at k3
      simp only at k3
      split at k3
      · assumption
      · omega
  subst hv
  have hu : u = 1 := by rw [← c6]; simpa using k2
  subst hu
  simp only at k1
  rw [← bb] at k1
  simp only [Int.cast_ofNat_Int] at k1
  simp [Std.fd__law_same, Std.b__law_same, fr_0, fr_1, ab, r, k1, bg_mul c1 c5, bg_mul c4 c2, c3, c7, flat_int, eqv_int]
/-! ### comprehensions of two fors -/
section
variable {ft : FT} {gl : List PyData} {fuel : Nat} {env : En}
def i2L (own2 lk : List Nat) (e2 : En) : Out (List PyData) → Out (List PyData)
  | .ok ds e3 => .ok ds (backE e2 e3 (own2 ++ lk))
  | .exc c s e => .exc c s e
  | .bad => .bad
@[simp] theorem i2L_ok (own2 lk : List Nat) (e2 e3 : En) (ds : List PyData) : i2L own2 lk e2 (.ok ds e3) = .ok ds (backE e2 e3 (own2 ++ lk)) := rfl
def i2K (ft : FT) (gl : List PyData) (own2 : List Nat) (p2 : Pat) (lk : List Nat) (hc : Bool) (c e0 : E) : Out (List PyData) → Out (List PyData)
  | .ok ys e2 => if walkable own2 e2 lk = true then i2L own2 lk e2 (compE ft gl own2 p2 hc c e0 ys (lockE (wipeE e2 own2) lk)) else .bad
  | .exc c s e => .exc c s e
  | .bad => .bad
@[simp] theorem i2K_ok (ft : FT) (gl : List PyData) (own2 : List Nat) (p2 : Pat) (lk : List Nat) (hc : Bool) (c e0 : E) (ys : List PyData) (e2 : En) : i2K ft gl own2 p2 lk hc c e0 (.ok ys e2) = if walkable own2 e2 lk = true then i2L own2 lk e2 (compE ft gl own2 p2 hc c e0 ys (lockE (wipeE e2 own2) lk)) else .bad := rfl
/-- the inner walk -/
def inE (ft : FT) (gl : List PyData) (own2 : List Nat) (p2 : Pat) (it2 : It) (hc : Bool) (c e0 : E) (en : En) : Out (List PyData) := i2K ft gl own2 p2 it2.lk hc c e0 (evIt ft gl it2 en)
def compOE (own : List Nat) (p : Pat) (inner : En → Out (List PyData)) (xs : List PyData) (en : En) : Out (List PyData) := compOut own (bindP p) inner xs en
def c2K (own : List Nat) (p : Pat) (lk : List Nat) (inner : En → Out (List PyData)) : Out (List PyData) → Out RV
  | .ok xs e => if walkable own e lk = true then compEnd own lk e (compOE own p inner xs (lockE (wipeE e own) lk)) else .bad
  | .exc c s e => .exc c s e
  | .bad => .bad
@[simp] theorem c2K_ok (own : List Nat) (p : Pat) (lk : List Nat) (inner : En → Out (List PyData)) (xs : List PyData) (e : En) : c2K own p lk inner (.ok xs e) = if walkable own e lk = true then compEnd own lk e (compOE own p inner xs (lockE (wipeE e own) lk)) else .bad := rfl
@[simp] theorem ev_comp2 (own own2 : List Nat) (p : Pat) (it : It) (p2 : Pat) (it2 : It) (hc : Bool) (c e : E) : evE ft gl (.comp2 own own2 p it p2 it2 hc c e) env = c2K own p it.lk (inE ft gl own2 p2 it2 hc c e) (evIt ft gl it env) := by
  simp only [evE]
  have hin : (fun en => (evIt ft gl it2 en).bind fun ys e2 => if walkable own2 e2 it2.lk = true then (compLoop own2 (bindP p2) (fun en => if hc = true then tst (evE ft gl c en) else Out.ok true en) (fun en => evE ft gl e en) ys (lockE (wipeE e2 own2) it2.lk)).bind fun ds e3 => Out.ok ds (backE e2 e3 (own2 ++ it2.lk)) else Out.bad) = inE ft gl own2 p2 it2 hc c e := by
    funext en
    unfold inE
    cases evIt ft gl it2 en with
    | ok ys e2 =>
      show (if walkable own2 e2 it2.lk = true then _ else _) = _
      rw [i2K_ok]
      congr 1
      unfold compE
      cases compLoop own2 (bindP p2) (fun en => if hc = true then tst (evE ft gl c en) else Out.ok true en) (evE ft gl e) ys (lockE (wipeE e2 own2) it2.lk) <;> rfl
    | exc => rfl
    | bad => rfl
  rw [hin]
  cases evIt ft gl it env <;> rfl
/-- all inner walks leave the place as it was -/
theorem comp2_flat {β γ : Type} {own : List Nat} {p : Pat} {inner : En → Out (List PyData)} {en : En} (enc : β → PyData) (g : β → List γ) (ec : γ → PyData) : ∀ (ys : List β)
    (_ : ∀ y ∈ ys, ∃ e1 e2, bindP p (enc y) en = some e1 ∧ inner e1 = .ok ((g y).map ec) e2 ∧ wipeE e2 own = en), compOE own p inner (ys.map enc) en = .ok ((ys.flatMap g).map ec) en
  | [], _ => rfl
  | y :: ys, h => by
    obtain ⟨e1, e2, h1, h2, h3⟩ := h y List.mem_cons_self
    have ih := comp2_flat enc g ec ys fun z hz => h z (List.mem_cons_of_mem _ hz)
    unfold compOE at ih ⊢
    rw [List.map_cons, compOut, h1]
    dsimp only
    rw [h2]
    dsimp only
    rw [h3, ih]
    simp
end
/-! ### orders -/
theorem perm_isOrd {o : List Nat} {m : Nat} (h : o.Perm (List.range m)) : isOrd (m : Int) (tn o) = true := by
  have hl : o.length = m := by simpa using h.length_eq
  have hn : o.Nodup := (List.Perm.nodup_iff h).2 List.nodup_range
  have hm : ∀ k ∈ o, k < m := fun k hk => by simpa using h.mem_iff.1 hk
  have hu : ∀ xs : List Nat, xs.Nodup → uniq (xs.map fun i : Nat => (i : Int)) = xs.map fun i : Nat => (i : Int) := by
    intro xs
    induction xs with
    | nil => intro _; rfl
    | cons x xs ih =>
      intro hx
      rw [List.nodup_cons] at hx
      have : ¬ (x : Int) ∈ xs.map fun i : Nat => (i : Int) := fun hh => by
        obtain ⟨y, h1, h2⟩ := List.mem_map.1 hh
        have : y = x := by omega
        exact hx.1 (this ▸ h1)
      simp only [List.map_cons, uniq]
      rw [if_neg this, ih hx.2]
  rw [tn_ti]
  unfold isOrd
  rw [areIn_ti]
  simp only [ti, intsOf_map, hu o hn, List.length_map, hl, Bool.and_eq_true, decide_eq_true_eq, List.all_eq_true, List.mem_map]
  refine ⟨⟨⟨by omega, by omega⟩, ?_⟩, trivial⟩
  rintro v ⟨k, hk, rfl⟩
  have := hm k hk
  omega
theorem isTup_tn (a b : Int) (o : List Nat) : isTupD a b (tn o) = (decide (a ≤ o.length) && decide ((o.length : Int) ≤ b)) := by simp [isTupD, tn]
theorem isIn_nat (lo hi : Int) (k : Nat) : isIn lo hi (.int (k : Int)) = (decide (lo ≤ (k : Int)) && decide ((k : Int) ≤ hi)) := rfl
theorem len_of {f : List Nat} {m : Nat} (h1 : f.Nodup) (h2 : ∀ x ∈ f, x < m) : f.length ≤ m := by
  have := List.Nodup.length_le_of_subset h1 (l₂ := List.range m) fun x hx => List.mem_range.2 (h2 x hx)
  simpa using this
theorem getD_mem {v : List Nat} {k : Nat} (h : k < v.length) : v.getD k 0 ∈ v := by
  rw [List.getD_eq_getElem?_getD, List.getElem?_eq_getElem h]
  exact List.getElem_mem h
/-- an order of the numbers below m -/
def Ord (m : Nat) (o : List Nat) : Prop := o.Perm (List.range m)
section
variable {m : Nat} {o : List Nat}
theorem Ord.len (h : Ord m o) : o.length = m := by simpa using List.Perm.length_eq h
theorem Ord.mem (h : Ord m o) {x : Nat} : x ∈ o ↔ x < m := by rw [List.Perm.mem_iff h, List.mem_range]
theorem Ord.nd (h : Ord m o) : o.Nodup := (List.Perm.nodup_iff h).2 List.nodup_range
theorem Ord.ix (h : Ord m o) {x : Nat} (hx : x < m) : o.idxOf x < m := by rw [← h.len]; exact List.idxOf_lt_length_of_mem (h.mem.2 hx)
theorem Ord.get (h : Ord m o) {x : Nat} (hx : x < m) : o.getD x 0 < m := h.mem.1 (getD_mem (by rw [h.len]; exact hx))
theorem Ord.at (h : Ord m o) {x : Nat} (hx : x < m) : o.getD (o.idxOf x) 0 = x := by
  have := List.idxOf_lt_length_of_mem (h.mem.2 hx)
  rw [List.getD_eq_getElem?_getD, List.getElem?_eq_getElem this]
  simp [List.getElem_idxOf this]
theorem Ord.ia (h : Ord m o) {x : Nat} (hx : x < m) : o.idxOf (o.getD x 0) = x := by
  have hl : x < o.length := by rw [h.len]; exact hx
  have e : o.getD x 0 = o[x] := by rw [List.getD_eq_getElem?_getD, List.getElem?_eq_getElem hl]; rfl
  have h1 : o.idxOf (o.getD x 0) < o.length := List.idxOf_lt_length_of_mem (getD_mem hl)
  have h2 : o[o.idxOf (o.getD x 0)] = o[x] := by rw [List.getElem_idxOf h1, e]
  exact (List.getElem_inj h.nd).1 h2
theorem Ord.inj (h : Ord m o) {x y : Nat} (hx : x < m) (hy : y < m) (e : o.idxOf x = o.idxOf y) : x = y := by
  rw [← h.at hx, e, h.at hy]
theorem Ord.gi (h : Ord m o) {x y : Nat} (hx : x < m) (hy : y < m) (e : o.getD x 0 = o.getD y 0) : x = y := by
  rw [← h.ia hx, e, h.ia hy]
end
end PL

/-! part PLSimK -/
set_option Elab.async false
set_option linter.all false
set_option autoImplicit false
set_option maxRecDepth 100000
set_option maxHeartbeats 4000000
/-! sorted by a key: the evaluator by rewriting -/
namespace PL
open PySem
@[simp] theorem valE_nil : valE [] = [] := rfl
@[simp] theorem valE_cons (s : Slot) (e : En) : valE (s :: e) = valS s :: valE e := rfl
@[simp] theorem valS_v (d : PyData) : valS (.val d) = .val d := rfl
@[simp] theorem valS_n : valS .non = .non := rfl
@[simp] theorem valS_o (xs : List PyData) : valS (.own xs) = .non := rfl
@[simp] theorem valS_i (xs : List PyData) : valS (.io xs) = .non := rfl
@[simp] theorem valS_l (xs : List PyData) : valS (.lk xs) = .non := rfl
section
variable (ft : FT) (gl : List PyData)
def keysE (b : E) (i : Nat) (env : En) (xs : List PyData) : Option (List PyData) := keysOf (fun en => evE ft gl b en) i env xs
def skM (xs : List PyData) (e : En) : Option (List PyData) → Out RV
  | some ks => if (sortOk ks && szOk xs.length) = true then .ok (.l (sortKD xs ks)) e else .bad
  | none => .bad
@[simp] theorem skM_s (xs : List PyData) (e : En) (ks : List PyData) : skM xs e (some ks) = if (sortOk ks && szOk xs.length) = true then .ok (.l (sortKD xs ks)) e else .bad := rfl
def skK (i : Nat) (b : E) : Out (List PyData) → Out RV
  | .ok xs e => if i < e.length then skM xs e (keysE ft gl b i (valE e) xs) else .bad
  | .exc c s e => .exc c s e
  | .bad => .bad
@[simp] theorem skK_ok (i : Nat) (b : E) (xs : List PyData) (e : En) : skK ft gl i b (.ok xs e) = if i < e.length then skM xs e (keysE ft gl b i (valE e) xs) else .bad := rfl
@[simp] theorem ev_sortK (it : It) (i : Nat) (b : E) (env : En) : evE ft gl (.sortK it i b) env = skK ft gl i b (evIt ft gl it env) := by
  simp only [evE]
  cases evIt ft gl it env with
  | ok xs e =>
    show (if i < e.length then _ else Out.bad) = if i < e.length then _ else Out.bad
    split
    · unfold keysE
      cases keysOf (fun en => evE ft gl b en) i (valE e) xs <;> rfl
    · rfl
  | exc c s e => rfl
  | bad => rfl
def mkM (xs : List PyData) (e : En) : Option (List PyData) → Out RV
  | some ks => if cmpOk ks = true then .lift ((minKD xs ks).map .v) e else .bad
  | none => .bad
@[simp] theorem mkM_s (xs : List PyData) (e : En) (ks : List PyData) : mkM xs e (some ks) = if cmpOk ks = true then .lift ((minKD xs ks).map .v) e else .bad := rfl
end
section
variable {ft : FT} {gl : List PyData} {β : Type}
theorem keysE_map {b : E} {i : Nat} {env : En} (enc key : β → PyData) : ∀ (ys : List β) (_ : ∀ y ∈ ys, evE ft gl b (env.set i (.val (enc y))) = .ok (.v (key y)) (env.set i (.val (enc y)))), keysE ft gl b i env (ys.map enc) = some (ys.map key)
  | [], _ => rfl
  | y :: ys, h => by
    have h1 := h y List.mem_cons_self
    have ih := keysE_map enc key ys fun z hz => h z (List.mem_cons_of_mem _ hz)
    unfold keysE at ih ⊢
    rw [List.map_cons, keysOf, h1, ih]
    rfl
end
theorem sortKD_map {β : Type} (enc key : β → PyData) (le : β → β → Bool) (ys : List β) (h : ∀ a ∈ ys, ∀ b ∈ ys, le a b = !W.dataLt (key b) (key a)) : sortKD (ys.map enc) (ys.map key) = (ys.mergeSort le).map enc := by
  unfold sortKD
  have e : (ys.map enc).zip (ys.map key) = ys.map fun y => (enc y, key y) := by
    rw [List.zip_map']
  rw [e, ← List.map_mergeSort (r := le) (f := fun y => (enc y, key y)) (fun a ha b hb => h a ha b hb), List.map_map]
  rfl
/-- a list sorted by a strict order is the one sorted list -/
theorem sort_eq {β : Type} {le : β → β → Bool} {ys zs : List β} (tr : ∀ a b c, le a b = true → le b c = true → le a c = true) (tot : ∀ a b, (le a b || le b a) = true) (as : ∀ a ∈ ys, ∀ b ∈ ys, le a b = true → le b a = true → a = b) (hp : ys.Perm zs) (hz : zs.Pairwise fun a b => le a b = true) : ys.mergeSort le = zs :=
  List.Perm.eq_of_pairwise (le := fun a b => le a b = true) (fun a b ha hb h1 h2 => as a (List.mem_mergeSort.1 ha) b (hp.mem_iff.2 hb) h1 h2) (List.pairwise_mergeSort tr tot ys) hz ((List.mergeSort_perm ys le).trans hp)
/-- pairs of ints as keys -/
def ii (p : Int × Int) : PyData := .tuple [.int p.1, .int p.2]
theorem depA_ii : ∀ {xs : List (Int × Int)}, PyData.depthAll (xs.map ii) ≤ 2
  | [] => by simp [PyData.depthAll]
  | x :: xs => by
    have := depA_ii (xs := xs)
    simp only [List.map_cons, PyData.depthAll]
    have : (ii x).depth ≤ 2 := by simp [ii, PyData.depth, PyData.depthAll]
    omega
theorem alike_ii (p q : Int × Int) : W.alike (ii p) (ii q) = true := by simp [ii, W.alike, W.alikeAll]
theorem sortOk_ii (xs : List (Int × Int)) : sortOk (xs.map ii) = true := by
  have := depA_ii (xs := xs)
  simp only [sortOk, Bool.and_eq_true, flatA, decide_eq_true_eq, alikeL, List.all_eq_true, List.mem_map, Bool.or_eq_true]
  refine ⟨⟨?_, by omega⟩, .inl ?_⟩
  · rintro _ ⟨a, _, rfl⟩ _ ⟨b, _, rfl⟩
    exact alike_ii a b
  · rintro _ ⟨a, _, rfl⟩
    rfl
theorem sortOk_it (xs : List (Int × List Nat)) : sortOk (xs.map it) = true := by
  have := depA_it (xs := xs)
  simp only [sortOk, Bool.and_eq_true, flatA, decide_eq_true_eq, alikeL, List.all_eq_true, List.mem_map, Bool.or_eq_true]
  refine ⟨⟨?_, by omega⟩, .inl ?_⟩
  · rintro _ ⟨a, _, rfl⟩ _ ⟨b, _, rfl⟩
    exact alike_it a b
  · rintro _ ⟨a, _, rfl⟩
    rfl
theorem dataLt_ii' (p q : Int × Int) : W.dataLt (ii p) (ii q) = decide (p.1 < q.1 ∨ (p.1 = q.1 ∧ p.2 < q.2)) := W.dataLt_ii _ _ _ _
/-! ### numbers sorted by a number, those alike by themselves -/
def leN (f : Nat → Int) (a b : Nat) : Bool := decide (f a < f b ∨ (f a = f b ∧ a ≤ b))
theorem leN_tr {f : Nat → Int} (a b c : Nat) (h1 : leN f a b = true) (h2 : leN f b c = true) : leN f a c = true := by
  simp only [leN, decide_eq_true_eq] at *; omega
theorem leN_tot {f : Nat → Int} (a b : Nat) : (leN f a b || leN f b a) = true := by
  simp only [leN, Bool.or_eq_true, decide_eq_true_eq]; omega
/-- the numbers below m by f -/
def byN (f : Nat → Int) (m : Nat) : List Nat := (List.range m).mergeSort (leN f)
theorem byN_perm (f : Nat → Int) (m : Nat) : (byN f m).Perm (List.range m) := List.mergeSort_perm _ _
theorem byN_le (f : Nat → Int) (m : Nat) : (byN f m).Pairwise fun a b => leN f a b = true := List.pairwise_mergeSort leN_tr leN_tot _
theorem byN_ord (f : Nat → Int) (m : Nat) : Ord m (byN f m) := byN_perm f m
theorem sortK_byN (f : Nat → Int) (m : Nat) : sortKD ((List.range m).map fun i : Nat => .int (i : Int)) ((List.range m).map fun i => ii (f i, (i : Int))) = (byN f m).map fun i : Nat => .int (i : Int) := by
  rw [sortKD_map (fun i : Nat => PyData.int (i : Int)) (fun i => ii (f i, (i : Int))) (leN f)]
  · rfl
  · intro a _ b _
    rw [dataLt_ii']
    simp only [leN]
    by_cases h : f b < f a ∨ (f b = f a ∧ (b : Int) < (a : Int))
    · rw [decide_eq_true h, decide_eq_false (by omega)]
      rfl
    · rw [decide_eq_false h, decide_eq_true (by omega)]
      rfl
end PL

/-! part PLY -/
set_option Elab.async false
set_option linter.all false
set_option autoImplicit false
set_option maxRecDepth 100000
set_option maxHeartbeats 4000000
/-! all choices, all orders: what they are -/
namespace PL
open PySem
theorem mem_chs {m : Nat} : ∀ {o : List Nat}, o ∈ chs m ↔ o.Pairwise (· < ·) ∧ ∀ x ∈ o, x < m := by
  induction m with
  | zero =>
    intro o
    simp only [chs, List.range_zero, List.foldl_nil, List.mem_singleton]
    constructor
    · rintro rfl
      exact ⟨.nil, by simp⟩
    · rintro ⟨_, h⟩
      cases o with
      | nil => rfl
      | cons x xs => exact absurd (h x List.mem_cons_self) (by omega)
  | succ m ih =>
    intro o
    rw [chs_succ, List.mem_append, List.mem_map]
    constructor
    · rintro (h | ⟨p, h, rfl⟩)
      · obtain ⟨h1, h2⟩ := ih.1 h
        exact ⟨h1, fun x hx => by have := h2 x hx; omega⟩
      · obtain ⟨h1, h2⟩ := ih.1 h
        refine ⟨List.pairwise_append.2 ⟨h1, by simp, fun x hx y hy => ?_⟩, fun x hx => ?_⟩
        · have : y = m := by simpa using hy
          rw [this]; exact h2 x hx
        · rcases List.mem_append.1 hx with hx | hx
          · have := h2 x hx; omega
          · have : x = m := by simpa using hx
            omega
    · rintro ⟨h1, h2⟩
      rcases List.eq_nil_or_concat o with rfl | ⟨p, y, rfl⟩
      · exact .inl (ih.2 ⟨.nil, by simp⟩)
      · rw [List.concat_eq_append] at *
        obtain ⟨p1, _, p2⟩ := List.pairwise_append.1 h1
        have hy := h2 y (by simp)
        by_cases c : y = m
        · refine .inr ⟨p, ih.2 ⟨p1, fun x hx => ?_⟩, by rw [c]⟩
          have := p2 x hx y (by simp)
          omega
        · refine .inl (ih.2 ⟨h1, fun x hx => ?_⟩)
          rcases List.mem_append.1 hx with hx | hx
          · have := p2 x hx y (by simp)
            omega
          · have : x = y := by simpa using hx
            omega
theorem chs_nd {m : Nat} {o : List Nat} (h : o ∈ chs m) : o.Nodup := (mem_chs.1 h).1.imp fun h => by omega
theorem chs_lt {m : Nat} {o : List Nat} (h : o ∈ chs m) : ∀ x ∈ o, x < m := (mem_chs.1 h).2
theorem mem_ordT {ts : List Nat} : ∀ {t : Nat} {o : List Nat}, o ∈ ordT ts t ↔ o.length = t ∧ o.Nodup ∧ ∀ x ∈ o, x ∈ ts
  | 0, o => by
    simp only [ordT, List.mem_singleton]
    constructor
    · rintro rfl; simp
    · rintro ⟨h, _⟩; exact List.length_eq_zero_iff.1 h
  | t + 1, o => by
    rw [ordT, List.mem_flatMap]
    constructor
    · rintro ⟨p, hp, ho⟩
      obtain ⟨h1, h2, h3⟩ := mem_ordT.1 hp
      obtain ⟨k, hk, rfl⟩ := List.mem_map.1 ho
      rw [List.mem_filter] at hk
      refine ⟨by simp [h1], ?_, fun x hx => ?_⟩
      · rw [List.nodup_append]
        refine ⟨h2, by simp, fun a ha b hb e => ?_⟩
        have : b = k := by simpa using hb
        subst this e
        simpa [ha] using hk.2
      · rcases List.mem_append.1 hx with hx | hx
        · exact h3 x hx
        · have : x = k := by simpa using hx
          rw [this]; exact hk.1
    · rintro ⟨h1, h2, h3⟩
      rcases List.eq_nil_or_concat o with rfl | ⟨p, y, rfl⟩
      · simp at h1
      · rw [List.concat_eq_append] at *
        rw [List.nodup_append] at h2
        refine ⟨p, mem_ordT.2 ⟨by simpa using h1, h2.1, fun x hx => h3 x (List.mem_append_left _ hx)⟩, List.mem_map.2 ⟨y, List.mem_filter.2 ⟨h3 y (by simp), ?_⟩, rfl⟩⟩
        have : y ∉ p := fun hy => h2.2.2 y hy y (by simp) rfl
        simp [this]
def ords (m : Nat) : List (List Nat) := ordT (List.range m) m
theorem mem_ords {m : Nat} {o : List Nat} : o ∈ ords m ↔ Ord m o := by
  unfold ords
  rw [mem_ordT]
  constructor
  · rintro ⟨h1, h2, h3⟩
    refine (List.perm_ext_iff_of_nodup h2 List.nodup_range).2 fun x => ⟨fun hx => h3 x hx, fun hx => ?_⟩
    by_cases c : x ∈ o
    · exact c
    · have hx := List.mem_range.1 hx
      have : (x :: o).length ≤ m := by
        have := List.Nodup.length_le_of_subset (List.nodup_cons.2 ⟨c, h2⟩) (l₂ := List.range m) fun y hy => by
          rcases List.mem_cons.1 hy with rfl | hy
          · exact List.mem_range.2 hx
          · exact h3 y hy
        simpa using this
      simp at this
      omega
  · intro h
    exact ⟨h.len, h.nd, fun x hx => List.mem_range.2 (h.mem.1 hx)⟩
theorem ords_ne {m : Nat} : ords m ≠ [] := List.ne_nil_of_mem (mem_ords.2 (List.Perm.refl _))
/-- sums over a part -/
theorem sum_sub {f : Nat → Nat} : ∀ {l1 l2 : List Nat}, l1.Nodup → (∀ x ∈ l1, x ∈ l2) → (l1.map f).sum ≤ (l2.map f).sum
  | [], _, _, _ => by simp
  | x :: l1, l2, hn, h => by
    rw [List.nodup_cons] at hn
    have hx := h x List.mem_cons_self
    have p := List.perm_cons_erase hx
    have := sum_sub (f := f) (l1 := l1) (l2 := l2.erase x) hn.2 fun y hy => (List.mem_erase_of_ne (by rintro rfl; exact hn.1 hy)).2 (h y (List.mem_cons_of_mem _ hy))
    have e := (p.map f).sum_nat
    simp only [List.map_cons, List.sum_cons] at e ⊢
    omega
/-- the first in a sorted list -/
theorem find_sorted {β : Type} {le : β → β → Bool} {ys : List β} {p : β → Bool} (tr : ∀ a b c, le a b = true → le b c = true → le a c = true) (tot : ∀ a b, (le a b || le b a) = true) {e : β} (h : (ys.mergeSort le).find? p = some e) : e ∈ ys ∧ p e = true ∧ ∀ y ∈ ys, p y = true → le e y = true := by
  obtain ⟨h1, as, bs, h2, h3⟩ := List.find?_eq_some_iff_append.1 h
  have pw := List.pairwise_mergeSort tr tot ys
  have hm : e ∈ ys := List.mem_mergeSort.1 (by rw [h2]; simp)
  refine ⟨hm, h1, fun y hy hp => ?_⟩
  have hy' : y ∈ ys.mergeSort le := List.mem_mergeSort.2 hy
  rw [h2] at hy' pw
  rcases List.mem_append.1 hy' with hy' | hy'
  · have := h3 y hy'
    rw [hp] at this
    cases this
  · rcases List.mem_cons.1 hy' with rfl | hy'
    · have := tot y y
      simpa using this
    · exact (List.pairwise_cons.1 (List.pairwise_append.1 pw).2.1).1 y hy'
theorem find_none_sorted {β : Type} {le : β → β → Bool} {ys : List β} {p : β → Bool} (h : (ys.mergeSort le).find? p = none) : ∀ y ∈ ys, p y = false := fun y hy => by
  have := List.find?_eq_none.1 h y (List.mem_mergeSort.2 hy)
  simpa using this
/-- choices by size, then by themselves -/
def leG (a b : List Nat) : Bool := !decide (b.length < a.length ∨ (b.length = a.length ∧ b < a))
theorem lt_tri (a b : List Nat) : a < b ∨ a = b ∨ b < a := by
  by_cases h : a < b
  · exact .inl h
  · by_cases h2 : b < a
    · exact .inr (.inr h2)
    · exact .inr (.inl (List.le_antisymm (List.not_lt.1 h2) (List.not_lt.1 h)))
theorem leG_eq (a b : List Nat) : leG a b = decide (a.length < b.length ∨ (a.length = b.length ∧ ¬ b < a)) := by
  unfold leG
  by_cases h : b.length < a.length ∨ (b.length = a.length ∧ b < a)
  · have h' : ¬ (a.length < b.length ∨ (a.length = b.length ∧ ¬ b < a)) := by
      rintro (h1 | ⟨h1, h2⟩)
      · rcases h with h | h <;> omega
      · rcases h with h | h
        · omega
        · exact h2 h.2
    rw [decide_eq_true h, decide_eq_false h']
    rfl
  · have h' : a.length < b.length ∨ (a.length = b.length ∧ ¬ b < a) := by
      by_cases h1 : a.length < b.length
      · exact .inl h1
      · refine .inr ⟨?_, fun h2 => h ?_⟩
        · by_cases h3 : b.length < a.length
          · exact absurd (.inl h3) h
          · omega
        · by_cases h3 : b.length < a.length
          · exact .inl h3
          · exact .inr ⟨by omega, h2⟩
    rw [decide_eq_false h, decide_eq_true h']
    rfl
theorem leG_tr (a b c : List Nat) (h1 : leG a b = true) (h2 : leG b c = true) : leG a c = true := by
  rw [leG_eq, decide_eq_true_eq] at *
  rcases h1 with h1 | ⟨h1, g1⟩
  · rcases h2 with h2 | ⟨h2, g2⟩ <;> exact .inl (by omega)
  · rcases h2 with h2 | ⟨h2, g2⟩
    · exact .inl (by omega)
    · refine .inr ⟨by omega, fun h => ?_⟩
      rcases lt_tri b a with q | q | q
      · exact g1 q
      · subst q; exact g2 h
      · exact g2 (List.lt_trans h q)
theorem leG_tot (a b : List Nat) : (leG a b || leG b a) = true := by
  rw [leG_eq, leG_eq, Bool.or_eq_true, decide_eq_true_eq, decide_eq_true_eq]
  by_cases h1 : a.length < b.length
  · exact .inl (.inl h1)
  · by_cases h2 : b.length < a.length
    · exact .inr (.inl h2)
    · by_cases h3 : b < a
      · exact .inr (.inr ⟨by omega, fun h => List.lt_irrefl _ (List.lt_trans h3 h)⟩)
      · exact .inl (.inr ⟨by omega, h3⟩)
theorem leG_min {a y : List Nat} (h : leG a y = true) : y = a ∨ (a.length : Int) < y.length ∨ ((a.length : Int) = y.length ∧ a < y) := by
  rw [leG_eq, decide_eq_true_eq] at h
  rcases h with h | ⟨h, g⟩
  · exact .inr (.inl (by omega))
  · rcases lt_tri a y with q | q | q
    · exact .inr (.inr ⟨by omega, q⟩)
    · exact .inl q.symm
    · exact absurd q g
theorem sortK_leG (gs : List (List Nat)) : sortKD (gs.map tn) (gs.map fun o => it ((o.length : Int), o)) = (gs.mergeSort leG).map tn :=
  sortKD_map tn (fun o => it ((o.length : Int), o)) leG gs fun a _ b _ => by
    rw [dataLt_it]
    unfold leG
    congr 1
    rw [decide_eq_decide]
    simp only [Int.ofNat_lt, Int.natCast_inj]
theorem eqv_li (xs ys : List Int) : PyData.eqv (.list (xs.map .int)) (.list (ys.map .int)) = decide (xs = ys) := by
  have h := eqv_ti xs ys
  simp only [ti, PyData.eqv] at h ⊢
  exact h
theorem flat_li (xs : List Int) : flatD (.list (xs.map .int)) = true := by
  have := depA_int xs
  simp [flatD, PyData.depth]
  omega
theorem s2_eq_ln (xs ys : List Nat) : sem2 .eq (.list (xs.map fun i : Nat => .int (i : Int))) (.list (ys.map fun i : Nat => .int (i : Int))) = some (.v (.bool (decide (xs = ys)))) := by
  rw [nat_ints, nat_ints]
  simp only [sem2, flat_li, eqv_li, Bool.and_self, if_true, castL_inj]
theorem wrong_set (m : Nat) : ∀ y ∈ [PyData.none, .list [.int 0], .tuple [.int 0, .int 0], .tuple [.int (m : Int)], .tuple [.int (-1)], .tuple [.str "q"]], (∀ xs, y = .tuple xs → xs.length ≤ 1000) ∧ areRis 0 (m : Int) ((m : Int) - 1) y = false := by
  intro y hy
  simp only [List.mem_cons, List.not_mem_nil, or_false] at hy
  rcases hy with rfl | rfl | rfl | rfl | rfl | rfl
  · exact ⟨fun xs h => (by cases h), rfl⟩
  · exact ⟨fun xs h => (by cases h), rfl⟩
  · refine ⟨fun xs h => (by cases h; simp), ?_⟩
    simp [areRis, intsOf, risB]
  · refine ⟨fun xs h => (by cases h; simp), ?_⟩
    simp [areRis, areIn, isIn]
    omega
  · refine ⟨fun xs h => (by cases h; simp), ?_⟩
    simp [areRis, areIn, isIn]
  · refine ⟨fun xs h => (by cases h; simp), ?_⟩
    simp [areRis, areIn, isIn]
theorem roll_ok {P : List Fd} {gl : List PyData} {fuel n : Nat} (hP : P[8]? = some Std.fd__law_roll) (d : Dc) (t : Int) (h1 : 1 ≤ t) (h2 : t < 2 ^ 60) (hd : d.c < 2 ^ 60) : ∃ (v : Nat) (d' : Dc), (v : Int) < t ∧ d'.c ≤ d.c + 1 ∧ callF P gl fuel (n + 1) 8 [.io (dc d), .val (.int t)] = .ok (.v (.int (v : Nat))) [.io (dc d'), .val (.int t)] := by
  have h := c_roll (P := P) (gl := gl) (fuel := fuel) (n := n) hP d t h1 h2 hd
  have := roll_lt d (show 0 < t.toNat by omega)
  exact ⟨_, _, by omega, roll_c d t.toNat, h⟩
theorem pick_ok {P : List Fd} {gl : List PyData} {fuel n : Nat} (h1 : P[8]? = some Std.fd__law_roll) (hP : P[9]? = some Std.fd__law_pick) (d : Dc) (xs : List PyData) (hx : xs ≠ []) (h2 : xs.length < 2 ^ 60) (hd : d.c < 2 ^ 60) : ∃ (k : Nat) (hk : k < xs.length) (d' : Dc), d'.c ≤ d.c + 1 ∧ callF P gl fuel (n + 2) 9 [.io (dc d), .val (.list xs)] = .ok (.v xs[k]) [.io (dc d'), .val (.list xs)] := by
  obtain ⟨h, e⟩ := c_pick_l (P := P) (gl := gl) (fuel := fuel) (n := n) h1 hP d xs hx h2 hd
  exact ⟨_, h, _, roll_c d _, e⟩
def isRT : SOut → Bool
  | .ret (.v (.bool true)) _ => true
  | _ => false
/-- all but the last -/
theorem cut_m1 (xs : List PyData) (h : 0 < xs.length) : cutD xs none (some (-1)) = xs.take (xs.length - 1) := by
  unfold cutD
  rw [show HT.sIx xs.length xs.length (some (-1)) = xs.length - 1 by simp [HT.sIx]; omega, show HT.sIx xs.length 0 none = 0 from rfl]
  simp
theorem ixN_m1 (k : Nat) (h : 0 < k) : L2.ixN k (-1) = some (k - 1) := by
  unfold L2.ixN
  simp
  omega
theorem s2_ne_ln (xs ys : List Nat) : sem2 .ne (.list (xs.map fun i : Nat => .int (i : Int))) (.list (ys.map fun i : Nat => .int (i : Int))) = some (.v (.bool (!decide (xs = ys)))) := by
  rw [nat_ints, nat_ints]
  simp only [sem2, flat_li, eqv_li, Bool.and_self, if_true, castL_inj]
end PL

/-! part PLZ -/
set_option Elab.async false
set_option linter.all false
set_option autoImplicit false
set_option maxRecDepth 100000
set_option maxHeartbeats 4000000
/-! what several laws need: draws, the least of pairs, sorted(set(..)), insert, remove, in range, min by a key -/
namespace PL
open PySem
theorem areIn_tn (a b lo hi : Int) (o : List Nat) (h1 : a ≤ o.length) (h2 : (o.length : Int) ≤ b) (h3 : ∀ x ∈ o, lo ≤ (x : Int) ∧ (x : Int) ≤ hi) : areIn a b lo hi (tn o) = true := by
  rw [tn_ti, areIn_ti]
  simp only [List.length_map, Bool.and_eq_true, decide_eq_true_eq, List.all_eq_true, List.mem_map]
  refine ⟨⟨h1, h2⟩, ?_⟩
  rintro v ⟨k, hk, rfl⟩
  exact h3 k hk
theorem risB_pw : ∀ {o : List Nat}, o.Pairwise (· < ·) → risB (o.map fun i : Nat => (i : Int)) = true
  | [], _ => rfl
  | [_], _ => rfl
  | x :: y :: o, h => by
    have h1 := List.pairwise_cons.1 h
    have ih := risB_pw h1.2
    have := h1.1 y List.mem_cons_self
    simp only [risB, List.map_cons, List.drop_succ_cons, List.drop_zero, List.zip_cons_cons, List.all_cons, Bool.and_eq_true, decide_eq_true_eq] at ih ⊢
    exact ⟨by omega, ih⟩
theorem areRis_tn {a b hi : Int} {o : List Nat} (h : o.Pairwise (· < ·)) (h1 : a ≤ o.length) (h2 : (o.length : Int) ≤ b) (h3 : ∀ x ∈ o, (x : Int) ≤ hi) : areRis a b hi (tn o) = true := by
  rw [tn_ti, areRis_ti, ← tn_ti, areIn_tn _ _ _ _ _ h1 h2 (fun x hx => ⟨by omega, h3 x hx⟩), risB_pw h]
  rfl
theorem areRis_chs {m : Nat} {o : List Nat} (h : o ∈ chs m) : areRis 0 (m : Int) ((m : Int) - 1) (tn o) = true :=
  areRis_tn (mem_chs.1 h).1 (by omega) (by have := mem_chs_len h; omega) fun x hx => by have := chs_lt h x hx; omega
theorem intsOf_nat {α : Type} (f : α → Nat) (g : List α) : intsOf (g.map fun x => PyData.int (f x : Nat)) = some (g.map fun x => ((f x : Nat) : Int)) := by
  have := intsOf_map (g.map fun x => ((f x : Nat) : Int))
  rw [List.map_map] at this
  exact this
theorem intsOf_int {α : Type} (f : α → Int) (g : List α) : intsOf (g.map fun x => PyData.int (f x)) = some (g.map f) := by
  have := intsOf_map (g.map f)
  rw [List.map_map] at this
  exact this
theorem sum_nat {α : Type} (f : α → Nat) : ∀ g : List α, (g.map fun x => ((f x : Nat) : Int)).sum = ((g.map f).sum : Nat)
  | [] => rfl
  | x :: g => by
    rw [List.map_cons, List.sum_cons, sum_nat f g]
    simp
theorem srt_ord {o : List Nat} {m : Nat} (ho : Ord m o) : sem1 .sorted (tn o) = some (.l ((List.range m).map fun i : Nat => .int (i : Int))) :=
  srt_eq ho.nd (T := List.range m) List.pairwise_lt_range fun x => by rw [ho.mem, List.mem_range]
theorem cmpOk_ii (xs : List (Int × Int)) : cmpOk (xs.map ii) = true := by
  have := depA_ii (xs := xs)
  simp only [cmpOk, Bool.and_eq_true, flatA, decide_eq_true_eq, alikeL, List.all_eq_true, List.mem_map]
  refine ⟨⟨?_, ?_⟩, by omega⟩
  · rintro _ ⟨a, _, rfl⟩ _ ⟨b, _, rfl⟩
    exact alike_ii a b
  · rintro _ ⟨a, _, rfl⟩
    rfl
/-- the least of pairs -/
theorem q1_min_ii {xs : List (Int × Int)} {e : Int × Int} (h : e ∈ xs) (hl : ∀ y ∈ xs, y = e ∨ e.1 < y.1 ∨ (e.1 = y.1 ∧ e.2 < y.2)) : sem1 .min (.list (xs.map ii)) = some (.v (ii e)) := by
  cases xs with
  | nil => cases h
  | cons x xs =>
    rw [List.map_cons, q1_minl, ← List.map_cons, cmpOk_ii, if_pos rfl]
    rw [min_is (e := ii e) (by rw [← List.map_cons]; exact List.mem_map_of_mem h) (fun y hy => ?_) (by rw [dataLt_ii']; simp)]
    rw [← List.map_cons, List.mem_map] at hy
    obtain ⟨z, hz, rfl⟩ := hy
    rcases hl z hz with rfl | h1
    · exact .inl rfl
    · exact .inr ⟨by rw [dataLt_ii']; simpa using h1, by rw [dataLt_ii']; simp only [decide_eq_false_iff_not]; omega⟩
theorem fmax_spec : ∀ (xs : List Int) (x : Int), (∀ y ∈ x :: xs, y ≤ xs.foldl max x) ∧ xs.foldl max x ∈ x :: xs
  | [], x => ⟨fun y hy => Int.le_of_eq (List.mem_singleton.1 hy), List.mem_cons_self⟩
  | z :: xs, x => by
    obtain ⟨h1, h2⟩ := fmax_spec xs (max x z)
    rw [List.foldl_cons]
    have q := h1 (max x z) List.mem_cons_self
    refine ⟨fun y hy => ?_, ?_⟩
    · rcases List.mem_cons.1 hy with rfl | hy
      · omega
      · rcases List.mem_cons.1 hy with rfl | hy
        · omega
        · exact h1 y (List.mem_cons_of_mem _ hy)
    · rcases List.mem_cons.1 h2 with q | q
      · rw [q]
        by_cases c : z ≤ x
        · rw [Int.max_eq_left c]
          exact List.mem_cons_self
        · rw [Int.max_eq_right (by omega)]
          exact List.mem_cons_of_mem _ List.mem_cons_self
      · exact List.mem_cons_of_mem _ (List.mem_cons_of_mem _ q)
theorem fmin_spec : ∀ (xs : List Int) (x : Int), (∀ y ∈ x :: xs, xs.foldl min x ≤ y) ∧ xs.foldl min x ∈ x :: xs
  | [], x => ⟨fun y hy => Int.le_of_eq (List.mem_singleton.1 hy).symm, List.mem_cons_self⟩
  | z :: xs, x => by
    obtain ⟨h1, h2⟩ := fmin_spec xs (min x z)
    rw [List.foldl_cons]
    have q := h1 (min x z) List.mem_cons_self
    refine ⟨fun y hy => ?_, ?_⟩
    · rcases List.mem_cons.1 hy with rfl | hy
      · omega
      · rcases List.mem_cons.1 hy with rfl | hy
        · omega
        · exact h1 y (List.mem_cons_of_mem _ hy)
    · rcases List.mem_cons.1 h2 with q | q
      · rw [q]
        by_cases c : x ≤ z
        · rw [Int.min_eq_left c]
          exact List.mem_cons_self
        · rw [Int.min_eq_right (by omega)]
          exact List.mem_cons_of_mem _ List.mem_cons_self
      · exact List.mem_cons_of_mem _ (List.mem_cons_of_mem _ q)
theorem max_is {xs : List Int} {e : Int} (h : e ∈ xs) (hl : ∀ y ∈ xs, y ≤ e) : sem1 .max (.list (xs.map .int)) = some (.v (.int e)) := by
  cases xs with
  | nil => cases h
  | cons x xs =>
    rw [q1_max_ints]
    obtain ⟨h1, h2⟩ := fmax_spec xs x
    rw [Int.le_antisymm (hl _ h2) (h1 e h)]
theorem min_at {xs : List Int} {e : Int} (h : e ∈ xs) (hl : ∀ y ∈ xs, e ≤ y) : sem1 .min (.list (xs.map .int)) = some (.v (.int e)) := by
  cases xs with
  | nil => cases h
  | cons x xs =>
    rw [q1_min_ints]
    obtain ⟨h1, h2⟩ := fmin_spec xs x
    rw [Int.le_antisymm (h1 e h) (hl _ h2)]
theorem max_nat {xs : List Nat} {e : Nat} (h : e ∈ xs) (hl : ∀ y ∈ xs, y ≤ e) : sem1 .max (.list (xs.map fun i : Nat => .int (i : Int))) = some (.v (.int (e : Int))) := by
  rw [nat_ints]
  refine max_is (List.mem_map_of_mem h) fun y hy => ?_
  obtain ⟨z, hz, rfl⟩ := List.mem_map.1 hy
  have := hl z hz
  omega
theorem min_nat {xs : List Nat} {e : Nat} (h : e ∈ xs) (hl : ∀ y ∈ xs, e ≤ y) : sem1 .min (.list (xs.map fun i : Nat => .int (i : Int))) = some (.v (.int (e : Int))) := by
  rw [nat_ints]
  refine min_at (List.mem_map_of_mem h) fun y hy => ?_
  obtain ⟨z, hz, rfl⟩ := List.mem_map.1 hy
  have := hl z hz
  omega
theorem ex_top {xs : List Nat} (h : xs ≠ []) : ∃ e ∈ xs, ∀ y ∈ xs, y ≤ e := by
  induction xs with
  | nil => exact absurd rfl h
  | cons x xs ih =>
    by_cases c : xs = []
    · subst c
      exact ⟨x, List.mem_cons_self, fun y hy => Nat.le_of_eq (List.mem_singleton.1 hy)⟩
    · obtain ⟨e, h1, h2⟩ := ih c
      by_cases d : x ≤ e
      · exact ⟨e, List.mem_cons_of_mem _ h1, fun y hy => by
          rcases List.mem_cons.1 hy with rfl | hy
          · exact d
          · exact h2 y hy⟩
      · exact ⟨x, List.mem_cons_self, fun y hy => by
          rcases List.mem_cons.1 hy with rfl | hy
          · exact Nat.le_refl _
          · have := h2 y hy
            omega⟩
theorem ex_low {xs : List Nat} (h : xs ≠ []) : ∃ e ∈ xs, ∀ y ∈ xs, e ≤ y := by
  induction xs with
  | nil => exact absurd rfl h
  | cons x xs ih =>
    by_cases c : xs = []
    · subst c
      exact ⟨x, List.mem_cons_self, fun y hy => Nat.le_of_eq (List.mem_singleton.1 hy).symm⟩
    · obtain ⟨e, h1, h2⟩ := ih c
      by_cases d : e ≤ x
      · exact ⟨e, List.mem_cons_of_mem _ h1, fun y hy => by
          rcases List.mem_cons.1 hy with rfl | hy
          · exact d
          · exact h2 y hy⟩
      · exact ⟨x, List.mem_cons_self, fun y hy => by
          rcases List.mem_cons.1 hy with rfl | hy
          · exact Nat.le_refl _
          · have := h2 y hy
            omega⟩
theorem idx_le : ∀ {xs : List Nat} {j e : Nat}, xs[j]? = some e → xs.idxOf e ≤ j
  | [], j, e, h => by simp at h
  | x :: xs, 0, e, h => by
    have : x = e := by simpa using h
    rw [this, List.idxOf_cons_self]
    exact Nat.le_refl _
  | x :: xs, j + 1, e, h => by
    have ih := idx_le (xs := xs) (j := j) (e := e) (by simpa using h)
    by_cases c : x = e
    · rw [c, List.idxOf_cons_self]
      omega
    · rw [List.idxOf_cons, show (x == e) = false by simpa using c]
      show xs.idxOf e + 1 ≤ j + 1
      omega
/-! ### draws -/
theorem rolls_ok {ft : FT} {gl : List PyData} {own : List Nat} {pt : Pat} {e : E} (st : Dc → En) (p : Nat → Prop) {B : Nat}
    (h : ∀ (y : Nat) (d : Dc), d.c < B → ∃ (v : Nat) (d2 : Dc), p v ∧ d2.c ≤ d.c + 1 ∧ compS ft gl own pt false .none e (.int (y : Nat)) (st d) = .ok (some (.int (v : Nat))) (st d2)) (m : Nat) (d : Dc) (hd : d.c + m ≤ B) :
    ∃ (ws : List Nat) (d2 : Dc), ws.length = m ∧ (∀ x ∈ ws, p x) ∧ d2.c ≤ d.c + m ∧ compE ft gl own pt false .none e ((List.range m).map fun i : Nat => .int (i : Int)) (st d) = .ok (ws.map fun i : Nat => .int (i : Int)) (st d2) := by
  obtain ⟨ws, d1, ⟨i1, i2, i3⟩, e1⟩ := comp_rel (ft := ft) (gl := gl) (own := own) (pt := pt) (hc := false) (c := .none) (e := e)
    st (fun (ys zs : List Nat) (e : Dc) => e.c + ys.length ≤ d.c + m ∧ zs.length + ys.length = m ∧ ∀ x ∈ zs, p x) (fun i : Nat => .int (i : Int)) (fun i : Nat => .int (i : Int)) (fun y ys zs e i => by
      obtain ⟨i1, i2, i3⟩ := i
      simp only [List.length_cons] at i1 i2
      obtain ⟨v, d2, l2, b2, r2⟩ := h y e (by omega)
      refine .inl ⟨v, d2, ⟨by omega, by simp; omega, fun x hx => ?_⟩, r2⟩
      rcases List.mem_append.1 hx with hx | hx
      · exact i3 x hx
      · rw [List.mem_singleton.1 hx]
        exact l2) (List.range m) [] d ⟨by simp, by simp, by simp⟩
  simp only [List.nil_append, List.length_nil, Nat.add_zero] at i1 i2 i3
  exact ⟨ws, d1, i2, i3, i1, e1⟩
/-! ### sorted(set(..)) -/
section
variable {ft : FT} {gl : List PyData} {fuel : Nat} {env : En}
def ssK : Out RV → Out RV
  | .ok r e => .lift (sortSetD r.d) e
  | .exc c s e => .exc c s e
  | .bad => .bad
@[simp] theorem ssK_ok (r : RV) (e : En) : ssK (.ok r e) = .lift (sortSetD r.d) e := rfl
@[simp] theorem ev_sortSet_b (i : Nat) : evE ft gl (.sortSet (.b i)) env = .lift ((rdB i env).bind sortSetD) env := by
  simp only [evE, evO, rsO]
  cases h : rdB i env with
  | none => rfl
  | some v =>
    show Out.lift ((rdB i env).bind sortSetD) env = _
    rw [h]
@[simp] theorem ev_sortSet_e (x : E) : evE ft gl (.sortSet (.e x)) env = ssK (evE ft gl x env) := by
  simp only [evE, evO, rsO]
  cases evE ft gl x env <;> rfl
end
/-- the members, rising -/
def su (ks : List Nat) : List Nat := (usort (ks.map fun i : Nat => (i : Int))).map Int.toNat
theorem usort_lt (ns : List Int) : (usort ns).Pairwise (· < ·) := by
  have h1 := List.pairwise_mergeSort (le := fun a b : Int => decide (a ≤ b)) (fun a b c h1 h2 => by simp at *; omega) (fun a b => by simp; omega) (uniq ns)
  have nd : (usort ns).Nodup := (List.mergeSort_perm _ _).nodup_iff.2 nodup_uniq
  have h2 : (usort ns).Pairwise (fun a b => decide (a ≤ b) = true ∧ a ≠ b) := List.pairwise_and_iff.2 ⟨h1, nd⟩
  exact h2.imp fun ⟨a, b⟩ => by simp at a; omega
theorem mem_usort {ns : List Int} {v : Int} : v ∈ usort ns ↔ v ∈ ns := by
  unfold usort
  rw [List.mem_mergeSort, mem_uniq]
theorem su_cast (ks : List Nat) : (su ks).map (fun i : Nat => (i : Int)) = usort (ks.map fun i : Nat => (i : Int)) := by
  unfold su
  rw [List.map_map]
  refine (List.map_congr_left fun v hv => ?_).trans (List.map_id _)
  rw [mem_usort, List.mem_map] at hv
  obtain ⟨k, _, rfl⟩ := hv
  simp
theorem mem_su {ks : List Nat} {v : Nat} : v ∈ su ks ↔ v ∈ ks := by
  have : (v : Int) ∈ (su ks).map (fun i : Nat => (i : Int)) ↔ v ∈ su ks := by
    rw [List.mem_map]
    constructor
    · rintro ⟨a, ha, e⟩
      have : a = v := by omega
      rw [← this]
      exact ha
    · intro h
      exact ⟨v, h, rfl⟩
  rw [← this, su_cast, mem_usort, List.mem_map]
  constructor
  · rintro ⟨a, ha, e⟩
    have : a = v := by omega
    rw [← this]
    exact ha
  · intro h
    exact ⟨v, h, rfl⟩
theorem su_lt (ks : List Nat) : (su ks).Pairwise (· < ·) := by
  have := usort_lt (ks.map fun i : Nat => (i : Int))
  rw [← su_cast, List.pairwise_map] at this
  exact this.imp fun h => by omega
theorem su_len (ks : List Nat) : (su ks).length ≤ ks.length := by
  have nd : (su ks).Nodup := (su_lt ks).imp fun h => by omega
  exact List.Nodup.length_le_of_subset nd fun x hx => mem_su.1 hx
theorem uniq_su (ks : List Nat) : (uniq (ks.map fun i : Nat => (i : Int))).length = (su ks).length := by
  have e := congrArg List.length (su_cast ks)
  rw [List.length_map] at e
  rw [e]
  exact (List.mergeSort_perm _ _).length_eq.symm
theorem sortSet_nat {ks : List Nat} (h : ks.length < 64) : sortSetD (.list (ks.map fun i : Nat => .int (i : Int))) = some (.l ((su ks).map fun i : Nat => .int (i : Int))) := by
  have a := intsOf_nat (fun i : Nat => i) ks
  have b := uniq_su ks
  have c := su_len ks
  show (if (ks.map _).length ≤ 1000 then _ else none) = _
  rw [if_pos (by rw [List.length_map]; omega), a, Option.bind_some, if_pos (by omega), ← su_cast, ← nat_ints]
theorem sortSet_tn {ks : List Nat} (h : ks.length < 64) : sortSetD (tn ks) = some (.l ((su ks).map fun i : Nat => .int (i : Int))) := by
  have a := intsOf_nat (fun i : Nat => i) ks
  have b := uniq_su ks
  have c := su_len ks
  show (if (ks.map _).length ≤ 1000 then _ else none) = _
  rw [if_pos (by rw [List.length_map]; omega), a, Option.bind_some, if_pos (by omega), ← su_cast, ← nat_ints]
theorem su_eq {ks : List Nat} (h : ks.Pairwise (· < ·)) : su ks = ks := by
  have n1 : (su ks).Nodup := (su_lt ks).imp fun h => by omega
  have n2 : ks.Nodup := h.imp fun h => by omega
  exact List.Perm.eq_of_pairwise (le := fun a b : Nat => a < b) (fun a b _ _ g1 g2 => by omega) (su_lt ks) h ((List.perm_ext_iff_of_nodup n1 n2).2 fun x => mem_su)
/-! ### insert, remove -/
section
variable {ft : FT} {gl : List PyData} {fuel : Nat} {env : En}
theorem ins_of {i k : Nat} {a e : E} {xs : List PyData} {d : RV} (h0 : rdM i env = some xs) (h1 : evE ft gl a env = .ok (.v (.int (k : Int))) env) (hk : k ≤ xs.length) (h2 : evE ft gl e env = .ok d env) (hz : szOk (xs.length + 1) = true) :
    exS ft gl fuel (.ins i a e) env = .nx (wrM i (xs.take k ++ d.d :: xs.drop k) env) := by
  simp only [exS, h0, h1, h2, SOut.of, RV.d, Option.isNone_some, Bool.false_eq_true, if_false]
  rw [if_pos ⟨by omega, by omega, hz⟩]
  simp
theorem rem_of {i : Nat} {e : E} {ks : List Nat} {k : Nat} (h0 : rdM i env = some (ks.map fun i : Nat => .int (i : Int))) (h1 : evE ft gl e env = .ok (.v (.int (k : Int))) env) (hk : k ∈ ks) :
    exS ft gl fuel (.rem i e) env = .nx (wrM i ((ks.erase k).map fun i : Nat => .int (i : Int)) env) := by
  have a := intsOf_nat (fun i : Nat => i) ks
  simp only [exS, h0, h1, SOut.of, RV.d, Option.isNone_some, Bool.false_eq_true, if_false, Option.bind_some, a]
  rw [if_pos (List.mem_map_of_mem hk)]
  have : ∀ ks : List Nat, (ks.map fun i : Nat => (i : Int)).erase (k : Int) = (ks.erase k).map fun i : Nat => (i : Int) := fun ks => by
    induction ks with
    | nil => rfl
    | cons x xs ih =>
      by_cases c : x = k
      · rw [c, List.erase_cons_head, List.map_cons, List.erase_cons_head]
      · rw [List.erase_cons_tail (by simpa using c), List.map_cons, List.map_cons, List.erase_cons_tail (by simp; omega), ih]
  rw [this, ← nat_ints]
/-! ### in a range -/
theorem inR_of {x : E} {it : It} {xs : List PyData} {i : Int} (h1 : evE ft gl x env = .ok (.v (.int i)) env) (h2 : evIt ft gl it env = .ok xs env) : evE ft gl (.inR false x it) env = .ok (.v (.bool (xs.any fun z => PyData.eqv z (.int i)))) env := by
  simp only [evE, h1, h2, Out.bind, RV.d, Bool.false_bne]
end
end PL

/-! part G29 -/
set_option maxRecDepth 100000
set_option linter.all false
set_option autoImplicit false
namespace K29
open PL PySem
def b_demand_times : Ss := (.cons (.expr (.call 0 (.cons (.call 3 (.cons (.var 0) (.cons (.int 0) (.cons (.glob 0) (.cons (.int 1) (.cons (.glob 1) .nil)))))) (.cons (.str "times") .nil))))
  .nil)
def b_ends_of : Ss := (.cons (.expr (.call 15 (.cons (.var 0) .nil)))
  (.cons (.expr (.call 0 (.cons (.call 5 (.cons (.var 1) (.cons (.op1 .len (.b 0)) .nil))) (.cons (.str "order") .nil))))
  (.cons (.ret (.call 17 (.cons (.var 0) (.cons (.var 1) .nil))))
  .nil)))
def b_ends : Ss := (.cons (.setT [(true, 3), (false, 4)] (.cons (.repL (.cons (.int 0) .nil) (.op1 .len (.b 0))) (.cons (.int 0) .nil)))
  (.cons (.forS (.nm 2) (.seq (.e (.var 1))) (.cons (.aug 4 (.op2 .ix (.b 0) (.b 2)))
  (.cons (.setI 3 (.var 2) (.var 4))
  .nil)) [2])
  (.cons (.ret (.op1 .tuple (.b 3)))
  .nil)))
def b_demand_weights : Ss := (.cons (.expr (.call 15 (.cons (.var 0) .nil)))
  (.cons (.expr (.call 0 (.cons (.call 3 (.cons (.var 1) (.cons (.op1 .len (.b 0)) (.cons (.op1 .len (.b 0)) (.cons (.int 1) (.cons (.int 100) .nil)))))) (.cons (.str "weights") .nil))))
  .nil))
def b_waiting : Ss := (.cons (.expr (.call 18 (.cons (.var 0) (.cons (.var 1) .nil))))
  (.cons (.expr (.call 0 (.cons (.call 5 (.cons (.var 2) (.cons (.op1 .len (.b 0)) .nil))) (.cons (.str "order") .nil))))
  (.cons (.ret (.op1 .sum (.e (.comp [3, 4] (.two (.nm 3) (.nm 4)) (.zip (.e (.call 17 (.cons (.var 0) (.cons (.var 2) .nil)))) (.b 1)) false .none (.op2 .mul (.b 3) (.b 4))))))
  .nil)))
def b_comes_first : Ss := (.cons (.setT [(false, 4), (false, 5)] (.cons (.op2 .mul (.e (.op2 .ix (.b 0) (.b 2))) (.e (.op2 .ix (.b 1) (.b 3)))) (.cons (.op2 .mul (.e (.op2 .ix (.b 0) (.b 3))) (.e (.op2 .ix (.b 1) (.b 2)))) .nil)))
  (.cons (.ret (.op2 .lt (.e (.tup (.cons (.var 4) (.cons (.var 2) .nil)))) (.e (.tup (.cons (.var 5) (.cons (.var 3) .nil))))))
  .nil))
def b_least_waiting : Ss := (.cons (.expr (.call 18 (.cons (.var 0) (.cons (.var 1) .nil))))
  (.cons (.set true 2 (.lst .nil))
  (.cons (.forS (.nm 3) (.r1 (.op1 .len (.b 0))) (.cons (.set false 4 (.op1 .len (.e (.comp [5] (.nm 5) (.seq (.b 2)) true (.call 20 (.cons (.var 0) (.cons (.var 1) (.cons (.var 5) (.cons (.var 3) .nil))))) (.int 1)))))
  (.cons (.ins 2 (.var 4) (.var 3))
  .nil)) [3, 4])
  (.cons (.ret (.op1 .tuple (.b 2)))
  .nil))))
def b_demand_dues : Ss := (.cons (.expr (.call 15 (.cons (.var 0) .nil)))
  (.cons (.expr (.call 0 (.cons (.call 3 (.cons (.var 1) (.cons (.op1 .len (.b 0)) (.cons (.op1 .len (.b 0)) (.cons (.int 0) (.cons (.op2 .mul (.e (.glob 1)) (.e (.glob 0))) .nil)))))) (.cons (.str "dues") .nil))))
  .nil))
def b_lateness : Ss := (.cons (.expr (.call 22 (.cons (.var 0) (.cons (.var 1) .nil))))
  (.cons (.expr (.call 0 (.cons (.call 5 (.cons (.var 2) (.cons (.op1 .len (.b 0)) .nil))) (.cons (.str "order") .nil))))
  (.cons (.ret (.op1 .max (.e (.op2 .add (.e (.lst (.cons (.int 0) .nil))) (.e (.comp [3, 4] (.two (.nm 3) (.nm 4)) (.zip (.e (.call 17 (.cons (.var 0) (.cons (.var 2) .nil)))) (.b 1)) false .none (.op2 .sub (.b 3) (.b 4))))))))
  .nil)))
def b_least_lateness : Ss := (.cons (.expr (.call 22 (.cons (.var 0) (.cons (.var 1) .nil))))
  (.cons (.ret (.op1 .tuple (.e (.sortK (.r1 (.op1 .len (.b 0))) 2 (.tup (.cons (.op2 .ix (.b 1) (.b 2)) (.cons (.var 2) .nil)))))))
  .nil))
def b_late_group : Ss := (.cons (.expr (.call 22 (.cons (.var 0) (.cons (.var 1) .nil))))
  (.cons (.set false 2 (.tup (.cons (.int 0) (.cons (.tup .nil) .nil))))
  (.cons (.forS (.nm 3) (.seq (.e (.sortSet (.b 1)))) (.cons (.set false 4 (.op1 .tuple (.e (.comp [6] (.nm 6) (.r1 (.op1 .len (.b 0))) true (.op2 .le (.e (.op2 .ix (.b 1) (.b 6))) (.b 3)) (.var 6)))))
  (.cons (.set false 5 (.op2 .sub (.e (.op1 .sum (.e (.comp [6] (.nm 6) (.seq (.b 4)) false .none (.op2 .ix (.b 0) (.b 6)))))) (.b 3)))
  (.cons (.ifS (.op2 .gt (.b 5) (.e (.op2 .ix (.b 2) (.e (.int 0))))) (.cons (.set false 2 (.tup (.cons (.var 5) (.cons (.var 4) .nil))))
  .nil) .nil)
  .nil))) [3, 4, 5])
  (.cons (.ret (.op2 .ix (.b 2) (.e (.int 1))))
  .nil))))
def b_shown_lateness : Ss := (.cons (.expr (.call 22 (.cons (.var 0) (.cons (.var 1) .nil))))
  (.cons (.ifS (.notE (.call 4 (.cons (.var 2) (.cons (.int 0) (.cons (.op1 .len (.b 0)) (.cons (.op2 .sub (.e (.op1 .len (.b 0))) (.e (.int 1))) .nil)))))) (.cons (.ret .none)
  .nil) .nil)
  (.cons (.ifS (.op2 .eq (.e (.op1 .len (.b 2))) (.e (.int 0))) (.cons (.ret (.int 0))
  .nil) .nil)
  (.cons (.ret (.op2 .max2 (.e (.int 0)) (.e (.op2 .sub (.e (.op1 .sum (.e (.comp [3] (.nm 3) (.seq (.b 2)) false .none (.op2 .ix (.b 0) (.b 3)))))) (.e (.op1 .max (.e (.comp [3] (.nm 3) (.seq (.b 2)) false .none (.op2 .ix (.b 1) (.b 3))))))))))
  .nil))))
def b_most_served_by : Ss := (.cons (.expr (.call 15 (.cons (.var 0) .nil)))
  (.cons (.expr (.call 0 (.cons (.call 3 (.cons (.tup (.cons (.var 1) .nil)) (.cons (.int 1) (.cons (.int 1) (.cons (.int 0) (.cons (.op2 .mul (.e (.glob 1)) (.e (.glob 0))) .nil)))))) (.cons (.str "clock") .nil))))
  (.cons (.setT [(true, 3), (false, 4)] (.cons (.lst .nil) (.cons (.int 0) .nil)))
  (.cons (.forS (.nm 2) (.seq (.e (.sortK (.r1 (.op1 .len (.b 0))) 5 (.tup (.cons (.op2 .ix (.b 0) (.b 5)) (.cons (.var 5) .nil)))))) (.cons (.ifS (.op2 .le (.e (.op2 .add (.b 4) (.e (.op2 .ix (.b 0) (.b 2))))) (.b 1)) (.cons (.app 3 (.var 2))
  (.cons (.aug 4 (.op2 .ix (.b 0) (.b 2)))
  .nil)) .nil)
  .nil) [2])
  (.cons (.ret (.op1 .tuple (.e (.op1 .sorted (.b 3)))))
  .nil)))))
def b__law_ends : Ss := (.cons (.ret (.op1 .tuple (.e (.comp [2] (.nm 2) (.r1 (.op1 .len (.b 0))) false .none (.op1 .sum (.e (.comp [3] (.nm 3) (.seq (.e (.sl (.b 1) .no (.so (.op2 .add (.e (.meth .index (.b 1) (.b 2))) (.e (.int 1))))))) false .none (.op2 .ix (.b 0) (.b 3)))))))))
  .nil)
def b__law_waiting : Ss := (.cons (.ret (.op1 .sum (.e (.comp [3, 4] (.two (.nm 3) (.nm 4)) (.zip (.e (.call 28 (.cons (.var 0) (.cons (.var 2) .nil)))) (.b 1)) false .none (.op2 .mul (.b 3) (.b 4))))))
  .nil)
def b__law_late : Ss := (.cons (.set false 3 (.int 0))
  (.cons (.forS (.two (.nm 4) (.nm 5)) (.zip (.e (.call 28 (.cons (.var 0) (.cons (.var 2) .nil)))) (.e (.var 1))) (.cons (.set false 3 (.op2 .max2 (.b 3) (.e (.op2 .sub (.b 4) (.b 5)))))
  .nil) [4, 5])
  (.cons (.ret (.var 3))
  .nil)))
def b__law_by_ratio : Ss := (.cons (.setT [(true, 3), (true, 4)] (.cons (.listR (.r1 (.op1 .len (.b 0)))) (.cons (.lst .nil) .nil)))
  (.cons (.forS (.nm 2) (.r1 (.op1 .len (.b 0))) (.cons (.set false 5 (.comp [6] (.nm 6) (.seq (.b 3)) true (.op1 .all (.e (.comp [7] (.nm 7) (.seq (.b 3)) false .none (.op2 .le (.e (.op2 .mul (.e (.op2 .ix (.b 0) (.b 6))) (.e (.op2 .ix (.b 1) (.b 7))))) (.e (.op2 .mul (.e (.op2 .ix (.b 0) (.b 7))) (.e (.op2 .ix (.b 1) (.b 6))))))))) (.var 6)))
  (.cons (.app 4 (.op2 .ix (.b 5) (.e (.int 0))))
  (.cons (.rem 3 (.op2 .ix (.b 5) (.e (.int 0))))
  .nil))) [2, 5])
  (.cons (.ret (.op1 .tuple (.b 4)))
  .nil)))
def b__law_shown : Ss := (.cons (.ifS (.op2 .eq (.e (.op1 .len (.b 2))) (.e (.int 0))) (.cons (.ret (.int 0))
  .nil) .nil)
  (.cons (.ret (.op2 .max2 (.e (.int 0)) (.e (.op2 .sub (.e (.op1 .sum (.e (.comp [3] (.nm 3) (.seq (.b 2)) false .none (.op2 .ix (.b 0) (.b 3)))))) (.e (.op1 .max (.e (.comp [3] (.nm 3) (.seq (.b 2)) false .none (.op2 .ix (.b 1) (.b 3))))))))))
  .nil))
def b_law : Ss := (.cons (.forS (.nm 1) (.r1 (.op2 .max2 (.e (.int 1)) (.e (.op2 .min2 (.e (.int 4)) (.e (.op1 .len (.b 0))))))) (.cons (.set true 3 (.call 7 (.cons (.var 0) (.cons (.var 1) .nil))))
  (.cons (.setT [(false, 14), (false, 15)] (.cons (.callIo 8 3 (.cons (.int 6) .nil)) (.cons (.callIo 9 3 (.cons (.lst (.cons (.int 3) (.cons (.int 10) (.cons (.int 1000) .nil)))) .nil)) .nil)))
  (.cons (.set false 4 (.op1 .tuple (.e (.comp [19] (.nm 19) (.r1 (.var 14)) false .none (.op2 .add (.e (.int 1)) (.e (.callIo 8 3 (.cons (.var 15) .nil))))))))
  (.cons (.set false 5 (.op1 .tuple (.e (.comp [19] (.nm 19) (.r1 (.var 14)) false .none (.op2 .add (.e (.int 1)) (.e (.callIo 8 3 (.cons (.callIo 9 3 (.cons (.lst (.cons (.int 3) (.cons (.int 100) .nil))) .nil)) .nil))))))))
  (.cons (.set false 6 (.op1 .tuple (.e (.comp [19] (.nm 19) (.r1 (.var 14)) false .none (.callIo 8 3 (.cons (.op2 .add (.e (.op2 .mul (.e (.int 2)) (.b 15))) (.e (.int 1))) .nil))))))
  (.cons (.set false 7 (.call 13 (.cons (.tupR (.r1 (.var 14))) .nil)))
  (.cons (.set false 8 (.callIo 9 3 (.cons (.var 7) .nil)))
  (.cons (.ifS (.op2 .ne (.e (.callK 16 [1, 0] (.cons (.var 8) (.cons (.var 4) .nil)))) (.e (.call 28 (.cons (.var 4) (.cons (.var 8) .nil))))) (.cons (.ret (.bool false))
  .nil) .nil)
  (.cons (.ifS (.op2 .ne (.e (.callK 19 [2, 1, 0] (.cons (.var 8) (.cons (.var 5) (.cons (.var 4) .nil))))) (.e (.call 29 (.cons (.var 4) (.cons (.var 5) (.cons (.var 8) .nil)))))) (.cons (.ret (.bool false))
  .nil) .nil)
  (.cons (.ifS (.op2 .ne (.e (.callK 23 [2, 1, 0] (.cons (.var 8) (.cons (.var 6) (.cons (.var 4) .nil))))) (.e (.call 30 (.cons (.var 4) (.cons (.var 6) (.cons (.var 8) .nil)))))) (.cons (.ret (.bool false))
  .nil) .nil)
  (.cons (.set false 2 (.callK 21 [1, 0] (.cons (.var 5) (.cons (.var 4) .nil))))
  (.cons (.set false 9 (.op1 .min (.e (.comp [11] (.nm 11) (.seq (.b 7)) false .none (.call 29 (.cons (.var 4) (.cons (.var 5) (.cons (.var 11) .nil))))))))
  (.cons (.ifS (.orE (.op2 .ne (.b 2) (.e (.call 31 (.cons (.var 4) (.cons (.var 5) .nil))))) (.op2 .ne (.e (.call 29 (.cons (.var 4) (.cons (.var 5) (.cons (.var 2) .nil))))) (.b 9))) (.cons (.ret (.bool false))
  .nil) .nil)
  (.cons (.set false 2 (.callK 24 [1, 0] (.cons (.var 6) (.cons (.var 4) .nil))))
  (.cons (.set false 9 (.op1 .min (.e (.comp [11] (.nm 11) (.seq (.b 7)) false .none (.call 30 (.cons (.var 4) (.cons (.var 6) (.cons (.var 11) .nil))))))))
  (.cons (.ifS (.orE (.op2 .ne (.b 2) (.e (.op1 .tuple (.e (.comp [20] (.nm 20) (.seq (.e (.op1 .sorted (.e (.comp [19, 17] (.two (.nm 19) (.nm 17)) (.enum (.b 6)) false .none (.tup (.cons (.var 17) (.cons (.var 19) .nil)))))))) false .none (.op2 .ix (.b 20) (.e (.int 1)))))))) (.op2 .ne (.e (.call 30 (.cons (.var 4) (.cons (.var 6) (.cons (.var 2) .nil))))) (.b 9))) (.cons (.ret (.bool false))
  .nil) .nil)
  (.cons (.set false 10 (.callK 25 [1, 0] (.cons (.var 6) (.cons (.var 4) .nil))))
  (.cons (.ifS (.orE (.op2 .nin (.b 10) (.e (.call 11 (.cons (.var 14) .nil)))) (.op2 .ne (.e (.call 32 (.cons (.var 4) (.cons (.var 6) (.cons (.var 10) .nil))))) (.b 9))) (.cons (.ret (.bool false))
  .nil) .nil)
  (.cons (.forS (.nm 11) (.seq (.e (.call 11 (.cons (.var 14) .nil)))) (.cons (.ifS (.orE (.op2 .ne (.e (.callK 26 [2, 1, 0] (.cons (.var 11) (.cons (.var 6) (.cons (.var 4) .nil))))) (.e (.call 32 (.cons (.var 4) (.cons (.var 6) (.cons (.var 11) .nil)))))) (.op2 .gt (.e (.call 32 (.cons (.var 4) (.cons (.var 6) (.cons (.var 11) .nil))))) (.b 9))) (.cons (.ret (.bool false))
  .nil) .nil)
  .nil) [11])
  (.cons (.set false 12 (.callIo 8 3 (.cons (.op2 .min2 (.e (.int 7001)) (.e (.op2 .add (.e (.op1 .sum (.b 4))) (.e (.int 3))))) .nil)))
  (.cons (.set false 2 (.callK 27 [1, 0] (.cons (.var 12) (.cons (.var 4) .nil))))
  (.cons (.setT [(false, 16), (true, 17)] (.cons (.op1 .sorted (.e (.comp [19, 18] (.two (.nm 19) (.nm 18)) (.enum (.b 4)) false .none (.tup (.cons (.var 18) (.cons (.var 19) .nil)))))) (.cons (.lst .nil) .nil)))
  (.cons (.forS (.two (.nm 18) (.nm 19)) (.seq (.e (.var 16))) (.cons (.ifS (.op2 .le (.e (.op2 .add (.e (.op1 .sum (.e (.comp [11] (.nm 11) (.seq (.b 17)) false .none (.op2 .ix (.b 4) (.b 11)))))) (.b 18))) (.b 12)) (.cons (.app 17 (.var 19))
  .nil) .nil)
  .nil) [18, 19])
  (.cons (.ifS (.orE (.op2 .ne (.b 2) (.e (.op1 .tuple (.e (.op1 .sorted (.b 17)))))) (.op2 .ne (.e (.op1 .len (.b 2))) (.e (.op1 .max (.e (.comp [11] (.nm 11) (.seq (.b 7)) false .none (.op1 .len (.e (.comp [21] (.nm 21) (.seq (.e (.call 28 (.cons (.var 4) (.cons (.var 11) .nil))))) true (.op2 .le (.b 21) (.b 12)) (.var 21)))))))))) (.cons (.ret (.bool false))
  .nil) .nil)
  (.cons (.forS (.nm 13) (.seq (.e (.tup (.cons .none (.cons (.lst (.cons (.int 0) .nil)) (.cons (.tup (.cons (.int 0) (.cons (.int 0) .nil))) (.cons (.tup (.cons (.var 14) .nil)) (.cons (.tup (.cons (.op1 .neg (.e (.int 1))) .nil)) (.cons (.tup (.cons (.str "q") .nil)) .nil))))))))) (.cons (.ifS (.op1 .notN (.e (.call 26 (.cons (.var 4) (.cons (.var 6) (.cons (.var 13) .nil)))))) (.cons (.ret (.bool false))
  .nil) .nil)
  .nil) [13])
  .nil))))))))))))))))))))))))) [1, 2, 3, 4, 5, 6, 7, 8, 9, 10, 11, 12, 13, 14, 15, 16, 17, 18, 19])
  (.cons (.set false 2 (.lst (.cons (.told 0 0 (.call 16 (.cons (.tup (.cons (.int 0) .nil)) (.cons .none .nil)))) (.cons (.told 0 0 (.call 16 (.cons (.tup (.cons (.int 1) (.cons (.int 1) .nil))) (.cons (.tup (.cons (.int 0) (.cons (.int 0) .nil))) .nil)))) (.cons (.told 0 0 (.call 19 (.cons (.tup (.cons (.int 1) .nil)) (.cons (.tup (.cons (.int 0) .nil)) (.cons .none .nil))))) (.cons (.told 0 0 (.call 19 (.cons (.tup (.cons (.int 1) .nil)) (.cons (.tup (.cons (.int 1) .nil)) (.cons (.tup (.cons (.int 1) .nil)) .nil))))) (.cons (.told 0 0 (.call 21 (.cons (.op2 .mul (.e (.tup (.cons (.int 1) .nil))) (.e (.int 8))) (.cons (.tup .nil) .nil)))) (.cons (.told 0 0 (.call 23 (.cons (.tup (.cons (.int 1) .nil)) (.cons (.tup (.cons (.int 7001) .nil)) (.cons .none .nil))))) (.cons (.told 0 0 (.call 23 (.cons (.tup (.cons (.int 1) .nil)) (.cons (.tup (.cons (.int 1) .nil)) (.cons (.tup .nil) .nil))))) (.cons (.told 0 0 (.call 24 (.cons (.tup (.cons (.int 1) .nil)) (.cons (.tup .nil) .nil)))) (.cons (.told 0 0 (.call 25 (.cons (.lst (.cons (.int 1) .nil)) (.cons (.tup .nil) .nil)))) (.cons (.told 0 0 (.call 26 (.cons (.tup (.cons (.int 1) .nil)) (.cons .none (.cons (.tup .nil) .nil))))) (.cons (.told 0 0 (.call 27 (.cons (.tup (.cons (.int 1) .nil)) (.cons (.int 7001) .nil)))) .nil)))))))))))))
  (.cons (.ifS (.op2 .ne (.b 2) (.e (.lst (.cons (.str "times") (.cons (.str "order") (.cons (.str "weights") (.cons (.str "order") (.cons (.str "times") (.cons (.str "dues") (.cons (.str "order") (.cons (.str "dues") (.cons (.str "times") (.cons (.str "dues") (.cons (.str "clock") .nil)))))))))))))) (.cons (.ret (.bool false))
  .nil) .nil)
  (.cons (.ifS (.orE (.op2 .ne (.e (.call 21 (.cons (.tup (.cons (.int 3) (.cons (.int 1) (.cons (.int 2) .nil)))) (.cons (.tup (.cons (.int 1) (.cons (.int 1) (.cons (.int 4) .nil)))) .nil)))) (.e (.tup (.cons (.int 2) (.cons (.int 1) (.cons (.int 0) .nil)))))) (.op2 .ne (.e (.call 24 (.cons (.tup (.cons (.int 2) (.cons (.int 2) (.cons (.int 1) .nil)))) (.cons (.tup (.cons (.int 5) (.cons (.int 2) (.cons (.int 5) .nil)))) .nil)))) (.e (.tup (.cons (.int 1) (.cons (.int 0) (.cons (.int 2) .nil))))))) (.cons (.ret (.bool false))
  .nil) .nil)
  (.cons (.ret (.andE (.op2 .eq (.e (.call 16 (.cons (.tup (.cons (.int 3) (.cons (.int 1) .nil))) (.cons (.tup (.cons (.int 1) (.cons (.int 0) .nil))) .nil)))) (.e (.tup (.cons (.int 4) (.cons (.int 1) .nil))))) (.andE (.op2 .eq (.e (.call 25 (.cons (.tup (.cons (.int 5) (.cons (.int 1) .nil))) (.cons (.tup (.cons (.int 3) (.cons (.int 9) .nil))) .nil)))) (.e (.tup (.cons (.int 0) .nil)))) (.andE (.op2 .eq (.e (.call 26 (.cons (.tup (.cons (.int 5) (.cons (.int 1) .nil))) (.cons (.tup (.cons (.int 3) (.cons (.int 3) .nil))) (.cons (.tup (.cons (.int 0) (.cons (.int 1) .nil))) .nil))))) (.e (.int 3))) (.op2 .eq (.e (.call 27 (.cons (.tup (.cons (.int 4) (.cons (.int 1) (.cons (.int 2) .nil)))) (.cons (.int 3) .nil)))) (.e (.tup (.cons (.int 1) (.cons (.int 2) .nil)))))))))
  .nil)))))
def P : List Fd := [⟨2, 2, Std.b_demand⟩,
  ⟨3, 3, Std.b_is_in⟩,
  ⟨3, 3, Std.b_is_tuple⟩,
  ⟨5, 6, Std.b_are_in⟩,
  ⟨4, 6, Std.b_are_rising⟩,
  ⟨2, 2, Std.b_is_order⟩,
  ⟨2, 2, Std.b_demand⟩,
  ⟨2, 5, Std.b__law_dice⟩,
  ⟨2, 3, Std.b__law_roll⟩,
  ⟨2, 2, Std.b__law_pick⟩,
  ⟨2, 2, Std.b_demand⟩,
  ⟨1, 4, Std.b__law_choices⟩,
  ⟨2, 2, Std.b_demand⟩,
  ⟨1, 6, Std.b__law_orders2⟩,
  ⟨2, 2, Std.b_demand⟩,
  ⟨1, 1, b_demand_times⟩,
  ⟨2, 2, b_ends_of⟩,
  ⟨2, 5, b_ends⟩,
  ⟨2, 2, b_demand_weights⟩,
  ⟨3, 5, b_waiting⟩,
  ⟨4, 6, b_comes_first⟩,
  ⟨2, 6, b_least_waiting⟩,
  ⟨2, 2, b_demand_dues⟩,
  ⟨3, 5, b_lateness⟩,
  ⟨2, 3, b_least_lateness⟩,
  ⟨2, 7, b_late_group⟩,
  ⟨3, 4, b_shown_lateness⟩,
  ⟨2, 6, b_most_served_by⟩,
  ⟨2, 4, b__law_ends⟩,
  ⟨3, 5, b__law_waiting⟩,
  ⟨3, 6, b__law_late⟩,
  ⟨2, 8, b__law_by_ratio⟩,
  ⟨3, 4, b__law_shown⟩]
def gl : List PyData := [(.int (7)), (.int (1000))]
abbrev i_demand_times : Nat := 15
abbrev i_ends_of : Nat := 16
abbrev i_ends : Nat := 17
abbrev i_demand_weights : Nat := 18
abbrev i_waiting : Nat := 19
abbrev i_comes_first : Nat := 20
abbrev i_least_waiting : Nat := 21
abbrev i_demand_dues : Nat := 22
abbrev i_lateness : Nat := 23
abbrev i_least_lateness : Nat := 24
abbrev i_late_group : Nat := 25
abbrev i_shown_lateness : Nat := 26
abbrev i_most_served_by : Nat := 27
abbrev i__law_ends : Nat := 28
abbrev i__law_waiting : Nat := 29
abbrev i__law_late : Nat := 30
abbrev i__law_by_ratio : Nat := 31
abbrev i__law_shown : Nat := 32
abbrev i_law : Nat := 33
/-
demand_times: 0 times
ends_of: 0 times, 1 order
ends: 0 times, 1 order, 2 owner, 3 found, 4 clock
demand_weights: 0 times, 1 weights
waiting: 0 times, 1 weights, 2 order, 3 end, 4 weight
comes_first: 0 times, 1 weights, 2 one, 3 other, 4 left, 5 right
least_waiting: 0 times, 1 weights, 2 found, 3 owner, 4 at, 5 other
demand_dues: 0 times, 1 dues
lateness: 0 times, 1 dues, 2 order, 3 end, 4 due
least_lateness: 0 times, 1 dues, 2 owner
late_group: 0 times, 1 dues, 2 best, 3 due, 4 group, 5 late, 6 owner
shown_lateness: 0 times, 1 dues, 2 value, 3 owner
most_served_by: 0 times, 1 clock, 2 owner, 3 found, 4 used, 5 one
_law_ends: 0 times, 1 order, 2 owner, 3 own
_law_waiting: 0 times, 1 weights, 2 order, 3 end, 4 weight
_law_late: 0 times, 1 dues, 2 order, 3 found, 4 end, 5 due
_law_by_ratio: 0 times, 1 weights, 2 turn, 3 left, 4 found, 5 good, 6 own, 7 other
_law_shown: 0 times, 1 dues, 2 group, 3 own
law: 0 script, 1 spot, 2 told, 3 dice, 4 times, 5 weights, 6 dues, 7 orders, 8 order, 9 least, 10 group, 11 own, 12 clock, 13 wrong, 14 many, 15 wide, 16 quick, 17 due, 18 time, 19 owner, 20 pair, 21 end
-/
end K29

/-! part K29L -/
set_option Elab.async false
set_option linter.all false
set_option autoImplicit false
set_option maxRecDepth 100000
set_option maxHeartbeats 4000000
/-! k29: the plain law -/
namespace K29
open PL PySem
def at_ (xs : List Nat) (k : Nat) : Nat := xs.getD k 0
theorem at_mem {xs : List Nat} {k : Nat} (h : k < xs.length) : at_ xs k ∈ xs := getD_mem h
def sm (ts l : List Nat) : Nat := (l.map (at_ ts)).sum
def en (ts o : List Nat) (i : Nat) : Nat := sm ts (o.take (o.idxOf i + 1))
def ends (ts o : List Nat) : List Nat := (List.range ts.length).map (en ts o)
theorem mem_take {o : List Nat} {k x : Nat} : x ∈ o.take k ↔ x ∈ o ∧ o.idxOf x < k := by
  constructor
  · intro h
    refine ⟨List.mem_of_mem_take h, ?_⟩
    obtain ⟨j, hj, e⟩ := List.mem_iff_getElem.1 h
    rw [List.length_take] at hj
    rw [List.getElem_take] at e
    have := idx_le (xs := o) (j := j) (e := x) (by rw [List.getElem?_eq_getElem (by omega), e])
    omega
  · rintro ⟨h1, h2⟩
    refine List.mem_of_getElem? (i := o.idxOf x) ?_
    rw [List.getElem?_take_of_lt h2, List.getElem?_eq_getElem (List.idxOf_lt_length_of_mem h1), List.getElem_idxOf]
/-! sums -/
theorem sum_filter {α : Type} (p : α → Bool) (f : α → Nat) : ∀ l : List α, ((l.filter p).map f).sum = (l.map fun x => if p x = true then f x else 0).sum
  | [] => rfl
  | x :: l => by
    rw [List.filter_cons]
    cases hp : p x with
    | true => simp [hp, sum_filter p f l]
    | false => simp [hp, sum_filter p f l]
theorem sum_mul_c {α : Type} (f : α → Nat) (c : Nat) : ∀ l : List α, (l.map f).sum * c = (l.map fun x => f x * c).sum
  | [] => by simp
  | x :: l => by simp [Nat.add_mul, sum_mul_c f c l]
theorem sum_add2 {α : Type} (f g : α → Nat) : ∀ l : List α, (l.map f).sum + (l.map g).sum = (l.map fun x => f x + g x).sum
  | [] => rfl
  | x :: l => by
    have := sum_add2 f g l
    simp only [List.map_cons, List.sum_cons]
    omega
theorem sum_le2 {α : Type} {f g : α → Nat} : ∀ {l : List α}, (∀ x ∈ l, f x ≤ g x) → (l.map f).sum ≤ (l.map g).sum
  | [], _ => Nat.le_refl _
  | x :: l, h => by
    have := sum_le2 (l := l) fun y hy => h y (List.mem_cons_of_mem _ hy)
    have := h x List.mem_cons_self
    simp only [List.map_cons, List.sum_cons]
    omega
theorem sum_turn {α β : Type} (f : α → β → Nat) (ys : List β) : ∀ xs : List α, (xs.map fun x => (ys.map (f x)).sum).sum = (ys.map fun y => (xs.map fun x => f x y).sum).sum
  | [] => by
    have : ∀ ys : List β, (ys.map fun _ => 0).sum = 0 := fun ys => by induction ys <;> simp_all
    simp [this]
  | x :: xs => by
    rw [List.map_cons, List.sum_cons, sum_turn f ys xs, sum_add2]
    rfl
def dbl (m : Nat) (f : Nat → Nat → Nat) : Nat := ((List.range m).map fun i => ((List.range m).map (f i)).sum).sum
theorem dbl_two (m : Nat) (f : Nat → Nat → Nat) : 2 * dbl m f = dbl m fun i j => f i j + f j i := by
  have e : dbl m f = dbl m fun i j => f j i := sum_turn f (List.range m) (List.range m)
  have e2 : dbl m f + dbl m (fun i j => f j i) = dbl m fun i j => f i j + f j i := by
    unfold dbl
    rw [sum_add2]
    congr 1
    refine List.map_congr_left fun i _ => ?_
    rw [sum_add2]
  omega
theorem dbl_le {m : Nat} {f g : Nat → Nat → Nat} (h : ∀ i, i < m → ∀ j, j < m → f i j ≤ g i j) : dbl m f ≤ dbl m g :=
  sum_le2 fun i hi => sum_le2 fun j hj => h i (List.mem_range.1 hi) j (List.mem_range.1 hj)
section
variable {m : Nat} {ts ws ds o : List Nat}
theorem en_sum (ho : Ord m o) (i : Nat) : en ts o i = ((List.range m).map fun j => if o.idxOf j ≤ o.idxOf i then at_ ts j else 0).sum := by
  have p : (o.take (o.idxOf i + 1)).Perm ((List.range m).filter fun j => decide (o.idxOf j ≤ o.idxOf i)) := by
    refine (List.perm_ext_iff_of_nodup (List.Nodup.sublist (List.take_sublist _ _) ho.nd) (List.Nodup.sublist List.filter_sublist List.nodup_range)).2 fun x => ?_
    rw [mem_take, List.mem_filter, ho.mem, List.mem_range, decide_eq_true_eq]
    omega
  unfold en sm
  rw [(p.map (at_ ts)).sum_nat, sum_filter]
  congr 1
  refine List.map_congr_left fun j _ => ?_
  by_cases c : o.idxOf j ≤ o.idxOf i <;> simp [c]
def wt (ts ws o : List Nat) : Nat := ((List.range ts.length).map fun i => en ts o i * at_ ws i).sum
def cc (ts ws o : List Nat) (i j : Nat) : Nat := if o.idxOf j ≤ o.idxOf i then at_ ts j * at_ ws i else 0
theorem wt_dbl (ho : Ord ts.length o) : wt ts ws o = dbl ts.length (cc ts ws o) := by
  unfold wt dbl
  congr 1
  refine List.map_congr_left fun i _ => ?_
  rw [en_sum ho, sum_mul_c]
  congr 1
  refine List.map_congr_left fun j _ => ?_
  unfold cc
  split
  · rfl
  · exact Nat.zero_mul _
theorem wt_le {e : List Nat} (he : Ord ts.length e) (ho : Ord ts.length o) (h : ∀ i, i < ts.length → ∀ j, j < ts.length → e.idxOf j < e.idxOf i → at_ ts j * at_ ws i ≤ at_ ts i * at_ ws j) : wt ts ws e ≤ wt ts ws o := by
  have : 2 * wt ts ws e ≤ 2 * wt ts ws o := by
    rw [wt_dbl he, wt_dbl ho, dbl_two, dbl_two]
    refine dbl_le fun i hi j hj => ?_
    unfold cc
    by_cases c : i = j
    · subst c
      simp
    · have n1 : e.idxOf i ≠ e.idxOf j := fun q => c (he.inj hi hj q)
      have n2 : o.idxOf i ≠ o.idxOf j := fun q => c (ho.inj hi hj q)
      have h1 := h i hi j hj
      have h2 := h j hj i hi
      generalize at_ ts j * at_ ws i = A at *
      generalize at_ ts i * at_ ws j = B at *
      split <;> split <;> split <;> split <;> omega
  omega
/-! the rule of ratios -/
def tv (ts : List Nat) (x : Nat) : Nat := max 1 (at_ ts x)
def leS (ts ws : List Nat) (a b : Nat) : Bool := decide (tv ts a * tv ws b < tv ts b * tv ws a ∨ (tv ts a * tv ws b = tv ts b * tv ws a ∧ a ≤ b))
theorem tv_pos (ts : List Nat) (x : Nat) : 0 < tv ts x := by unfold tv; omega
theorem leS_tot (a b : Nat) : (leS ts ws a b || leS ts ws b a) = true := by
  simp only [leS, Bool.or_eq_true, decide_eq_true_eq]
  omega
theorem leS_as {a b : Nat} (h1 : leS ts ws a b = true) (h2 : leS ts ws b a = true) : a = b := by
  simp only [leS, decide_eq_true_eq] at h1 h2
  omega
theorem leS_tr (a b c : Nat) (h1 : leS ts ws a b = true) (h2 : leS ts ws b c = true) : leS ts ws a c = true := by
  simp only [leS, decide_eq_true_eq] at h1 h2 ⊢
  have pa := tv_pos ws a
  have pb := tv_pos ws b
  have pc := tv_pos ws c
  generalize tv ts a = ta at *
  generalize tv ts b = tb at *
  generalize tv ts c = tc at *
  generalize tv ws a = wa at *
  generalize tv ws b = wb at *
  generalize tv ws c = wc at *
  have e1 : (ta * wb) * wc = (ta * wc) * wb := Nat.mul_right_comm _ _ _
  have e2 : (tb * wa) * wc = (tb * wc) * wa := Nat.mul_right_comm _ _ _
  have e3 : (tc * wb) * wa = (tc * wa) * wb := Nat.mul_right_comm _ _ _
  have key : ta * wc * wb < tc * wa * wb ∨ (ta * wc * wb = tc * wa * wb ∧ a ≤ c) := by
    rcases h1 with h1 | ⟨h1, g1⟩
    · have k1 := Nat.mul_lt_mul_of_pos_right h1 pc
      rcases h2 with h2 | ⟨h2, g2⟩
      · have k2 := Nat.mul_lt_mul_of_pos_right h2 pa
        omega
      · have k2 : tb * wc * wa = tc * wb * wa := by rw [h2]
        omega
    · have k1 : ta * wb * wc = tb * wa * wc := by rw [h1]
      rcases h2 with h2 | ⟨h2, g2⟩
      · have k2 := Nat.mul_lt_mul_of_pos_right h2 pa
        omega
      · have k2 : tb * wc * wa = tc * wb * wa := by rw [h2]
        omega
  rcases key with k | ⟨k, g⟩
  · exact .inl (Nat.lt_of_mul_lt_mul_right k)
  · exact .inr ⟨Nat.eq_of_mul_eq_mul_right pb k, g⟩
def smt (ts ws : List Nat) (k : Nat) : List Nat := (List.range k).mergeSort (leS ts ws)
theorem smt_perm (ts ws : List Nat) (k : Nat) : (smt ts ws k).Perm (List.range k) := List.mergeSort_perm _ _
theorem smt_ord (ts ws : List Nat) (k : Nat) : Ord k (smt ts ws k) := smt_perm ts ws k
theorem smt_le (ts ws : List Nat) (k : Nat) : (smt ts ws k).Pairwise fun a b => leS ts ws a b = true := List.pairwise_mergeSort leS_tr leS_tot _
theorem part (ts ws : List Nat) (k : Nat) : ∀ {l : List Nat}, l.Pairwise (fun a b => leS ts ws a b = true) → l.take (l.filter fun x => leS ts ws x k).length = l.filter (fun x => leS ts ws x k) ∧ l.drop (l.filter fun x => leS ts ws x k).length = l.filter (fun x => !leS ts ws x k)
  | [], _ => ⟨rfl, rfl⟩
  | x :: l, h => by
    rw [List.pairwise_cons] at h
    cases hx : leS ts ws x k with
    | true =>
      obtain ⟨h1, h2⟩ := part ts ws k h.2
      simp only [List.filter_cons, hx, if_true, List.length_cons, List.take_succ_cons, List.drop_succ_cons, h1, Bool.not_true, Bool.false_eq_true, if_false, h2, and_self]
    | false =>
      have no : ∀ y ∈ l, leS ts ws y k = false := fun y hy => by
        cases hy2 : leS ts ws y k with
        | false => rfl
        | true =>
          have := leS_tr x y k (h.1 y hy) hy2
          rw [hx] at this
          cases this
      have f1 : l.filter (fun x => leS ts ws x k) = [] := List.filter_eq_nil_iff.2 fun y hy => by rw [no y hy]; decide
      have f2 : l.filter (fun x => !leS ts ws x k) = l := List.filter_eq_self.2 fun y hy => by rw [no y hy]; rfl
      simp [List.filter_cons, hx, f1, f2]
theorem smt_ins (ts ws : List Nat) (k : Nat) : (smt ts ws k).take ((smt ts ws k).filter fun x => leS ts ws x k).length ++ k :: (smt ts ws k).drop ((smt ts ws k).filter fun x => leS ts ws x k).length = smt ts ws (k + 1) := by
  have so := smt_le ts ws k
  obtain ⟨h1, h2⟩ := part ts ws k so
  have p : ((smt ts ws k).take ((smt ts ws k).filter fun x => leS ts ws x k).length ++ k :: (smt ts ws k).drop ((smt ts ws k).filter fun x => leS ts ws x k).length).Perm (List.range (k + 1)) := by
    refine List.perm_middle.trans ?_
    rw [List.take_append_drop, List.range_succ]
    exact ((smt_perm ts ws k).cons k).trans (List.perm_append_comm (l₁ := [k]))
  refine (sort_eq leS_tr leS_tot (fun a _ b _ g1 g2 => leS_as g1 g2) p.symm ?_).symm
  rw [h1, h2]
  refine List.pairwise_append.2 ⟨List.Pairwise.filter _ so, List.pairwise_cons.2 ⟨fun y hy => ?_, List.Pairwise.filter _ so⟩, fun x hx y hy => ?_⟩
  · have := (List.mem_filter.1 hy).2
    have t := leS_tot (ts := ts) (ws := ws) k y
    rw [Bool.not_eq_true'] at this
    rw [this, Bool.or_false] at t
    exact t
  · have hx2 := (List.mem_filter.1 hx).2
    rcases List.mem_cons.1 hy with rfl | hy
    · exact hx2
    · have := (List.mem_filter.1 hy).2
      have t := leS_tot (ts := ts) (ws := ws) k y
      rw [Bool.not_eq_true'] at this
      rw [this, Bool.or_false] at t
      exact leS_tr x k y hx2 t
/-- positions in a sorted order -/
theorem pw_idx {le : Nat → Nat → Bool} {o : List Nat} {m : Nat} (ho : Ord m o) (hs : o.Pairwise fun a b => le a b = true) {i j : Nat} (hi : i < m) (hj : j < m) (h : o.idxOf i < o.idxOf j) : le i j = true := by
  have := List.pairwise_iff_getElem.1 hs (o.idxOf i) (o.idxOf j) (List.idxOf_lt_length_of_mem (ho.mem.2 hi)) (List.idxOf_lt_length_of_mem (ho.mem.2 hj)) h
  rw [List.getElem_idxOf, List.getElem_idxOf] at this
  exact this
structure Pos (m : Nat) (xs : List Nat) : Prop where
  l : xs.length = m
  b : ∀ x ∈ xs, 1 ≤ x
theorem Pos.tv (h : Pos m ts) {x : Nat} (hx : x < m) : tv ts x = at_ ts x := by
  have := h.b _ (at_mem (xs := ts) (k := x) (by rw [h.l]; exact hx))
  unfold K29.tv
  omega
theorem leS_eq (ht : Pos m ts) (hw : Pos m ws) {a b : Nat} (ha : a < m) (hb : b < m) : leS ts ws a b = decide (at_ ts a * at_ ws b < at_ ts b * at_ ws a ∨ (at_ ts a * at_ ws b = at_ ts b * at_ ws a ∧ a ≤ b)) := by
  unfold leS
  rw [ht.tv ha, ht.tv hb, hw.tv ha, hw.tv hb]
theorem smith_le (ht : Pos m ts) (hw : Pos m ws) (ho : Ord m o) : wt ts ws (smt ts ws m) ≤ wt ts ws o := by
  have hm := ht.l
  subst hm
  refine wt_le (smt_ord ts ws _) ho fun i hi j hj h => ?_
  have := pw_idx (smt_ord ts ws _) (smt_le ts ws _) hj hi h
  rw [leS_eq ht hw hj hi, decide_eq_true_eq] at this
  omega
/-- the choice by ratio -/
def rest (ts ws : List Nat) (m k : Nat) : List Nat := (List.range m).filter fun x => decide (k ≤ (smt ts ws m).idxOf x)
theorem rest_zero (ts ws : List Nat) (m : Nat) : rest ts ws m 0 = List.range m := List.filter_eq_self.2 fun x _ => by simp
def good (ts ws : List Nat) (l : List Nat) : List Nat := l.filter fun a => l.all fun b => decide (at_ ts a * at_ ws b ≤ at_ ts b * at_ ws a)
theorem good_head (ht : Pos m ts) (hw : Pos m ws) {k : Nat} (hk : k < m) : ∃ r, good ts ws (rest ts ws m k) = (smt ts ws m).getD k 0 :: r := by
  have so := smt_ord ts ws m
  have g1 := so.get hk
  have g2 := so.ia hk
  generalize hg : (smt ts ws m).getD k 0 = g at *
  have e : good ts ws (rest ts ws m k) = (List.range m).filter fun a => (rest ts ws m k).all (fun b => decide (at_ ts a * at_ ws b ≤ at_ ts b * at_ ws a)) && decide (k ≤ (smt ts ws m).idxOf a) := by
    unfold good
    conv => lhs; arg 2; unfold rest
    rw [List.filter_filter]
  have fnd : (List.range m).find? (fun a => (rest ts ws m k).all (fun b => decide (at_ ts a * at_ ws b ≤ at_ ts b * at_ ws a)) && decide (k ≤ (smt ts ws m).idxOf a)) = some g := by
    rw [List.find?_range_eq_some]
    refine ⟨?_, List.mem_range.2 g1, fun j hj => ?_⟩
    · rw [Bool.and_eq_true, List.all_eq_true]
      refine ⟨fun b hb => ?_, by rw [g2]; simp⟩
      obtain ⟨b1, b2⟩ := List.mem_filter.1 hb
      have b1 := List.mem_range.1 b1
      have b2 : k ≤ (smt ts ws m).idxOf b := by simpa using b2
      rw [decide_eq_true_eq]
      by_cases c : (smt ts ws m).idxOf b = k
      · have : b = g := so.inj b1 g1 (by rw [c, g2])
        rw [this]
        exact Nat.le_refl _
      · have := pw_idx so (smt_le ts ws m) g1 b1 (by rw [g2]; omega)
        rw [leS_eq ht hw g1 b1, decide_eq_true_eq] at this
        omega
    · rw [Bool.not_eq_true', Bool.eq_false_iff]
      intro q
      rw [Bool.and_eq_true, List.all_eq_true] at q
      obtain ⟨q1, q2⟩ := q
      have q2 : k ≤ (smt ts ws m).idxOf j := by simpa using q2
      have a1 := q1 g (List.mem_filter.2 ⟨List.mem_range.2 g1, by rw [g2]; simp⟩)
      rw [decide_eq_true_eq] at a1
      have c : (smt ts ws m).idxOf j ≠ k := fun c => by
        have : j = g := so.inj (by omega) g1 (by rw [c, g2])
        omega
      have := pw_idx so (smt_le ts ws m) g1 (show j < m by omega) (by rw [g2]; omega)
      rw [leS_eq ht hw g1 (by omega), decide_eq_true_eq] at this
      omega
  rw [← List.head?_filter] at fnd
  rw [e]
  cases hl : (List.range m).filter (fun a => (rest ts ws m k).all (fun b => decide (at_ ts a * at_ ws b ≤ at_ ts b * at_ ws a)) && decide (k ≤ (smt ts ws m).idxOf a)) with
  | nil => rw [hl] at fnd; cases fnd
  | cons x r =>
    rw [hl] at fnd
    cases fnd
    exact ⟨r, rfl⟩
theorem rest_erase {k : Nat} (hk : k < m) : (rest ts ws m k).erase ((smt ts ws m).getD k 0) = rest ts ws m (k + 1) := by
  have so := smt_ord ts ws m
  have g1 := so.get hk
  have g2 := so.ia hk
  generalize (smt ts ws m).getD k 0 = g at *
  have nd : (rest ts ws m k).Nodup := List.Nodup.sublist List.filter_sublist List.nodup_range
  rw [nd.erase_eq_filter]
  unfold rest
  rw [List.filter_filter]
  refine List.filter_congr fun x hx => ?_
  have hx := List.mem_range.1 hx
  by_cases c : x = g
  · rw [c, g2, decide_eq_false (p := k + 1 ≤ k) (by omega)]
    simp
  · have n : (smt ts ws m).idxOf x ≠ k := fun q => c (so.inj hx g1 (by rw [q, g2]))
    have : (x != g) = true := by simpa using c
    rw [this, Bool.true_and, decide_eq_decide]
    omega
end
end K29

/-! part K29E -/
set_option Elab.async false
set_option linter.all false
set_option autoImplicit false
set_option maxRecDepth 100000
set_option maxHeartbeats 4000000
/-! k29: the plain law: what is late, who is served -/
namespace K29
open PL PySem
section
variable {m : Nat} {ts ws ds o : List Nat}
theorem sm_sub {l1 l2 : List Nat} (hn : l1.Nodup) (h : ∀ x ∈ l1, x ∈ l2) : sm ts l1 ≤ sm ts l2 := sum_sub hn h
theorem sm_app (a b : List Nat) : sm ts (a ++ b) = sm ts a + sm ts b := by simp [sm]
/-- the lateness -/
def lt1 (ts ds o : List Nat) (i : Nat) : Int := (en ts o i : Int) - (at_ ds i : Int)
def late (ts ds o : List Nat) : Int := ((List.range ts.length).map (lt1 ts ds o)).foldl max 0
theorem late0 : 0 ≤ late ts ds o := (fmax_spec _ _).1 0 List.mem_cons_self
theorem late_ge {i : Nat} (hi : i < ts.length) : lt1 ts ds o i ≤ late ts ds o := (fmax_spec _ _).1 _ (List.mem_cons_of_mem _ (List.mem_map_of_mem (List.mem_range.2 hi)))
theorem late_at : late ts ds o = 0 ∨ ∃ i, i < ts.length ∧ late ts ds o = lt1 ts ds o i := by
  rcases List.mem_cons.1 (fmax_spec ((List.range ts.length).map (lt1 ts ds o)) 0).2 with q | q
  · exact .inl q
  · obtain ⟨i, hi, e⟩ := List.mem_map.1 q
    exact .inr ⟨i, List.mem_range.1 hi, e.symm⟩
theorem grp_le (ho : Ord ts.length o) {g : List Nat} {D : Nat} (hn : g.Nodup) (hb : ∀ x ∈ g, x < ts.length) (h0 : g ≠ []) (hD : ∀ x ∈ g, at_ ds x ≤ D) : (sm ts g : Int) - (D : Int) ≤ late ts ds o := by
  obtain ⟨e, he, hl⟩ := ex_top (xs := g.map o.idxOf) (by simpa using h0)
  obtain ⟨l, hlg, rfl⟩ := List.mem_map.1 he
  have s1 : sm ts g ≤ en ts o l := sm_sub hn fun x hx => mem_take.2 ⟨ho.mem.2 (hb x hx), by have := hl _ (List.mem_map_of_mem hx); omega⟩
  have := late_ge (ts := ts) (ds := ds) (o := o) (hb l hlg)
  have := hD l hlg
  unfold lt1 at *
  omega
def edd (ds : List Nat) : List Nat := byN (fun i => (at_ ds i : Int)) ds.length
theorem edd_ord (hd : ds.length = ts.length) : Ord ts.length (edd ds) := by rw [← hd]; exact byN_ord _ _
theorem edd_idx (hd : ds.length = ts.length) {i j : Nat} (hi : i < ts.length) (hj : j < ts.length) (h : (edd ds).idxOf i < (edd ds).idxOf j) : at_ ds i ≤ at_ ds j := by
  have := pw_idx (edd_ord hd) (byN_le _ _) hi hj h
  simp only [leN, decide_eq_true_eq] at this
  omega
theorem edd_take (hd : ds.length = ts.length) {i : Nat} (hi : i < ts.length) {x : Nat} (hx : x ∈ (edd ds).take ((edd ds).idxOf i + 1)) : x < ts.length ∧ at_ ds x ≤ at_ ds i := by
  obtain ⟨h1, h2⟩ := mem_take.1 hx
  have h1 := (edd_ord hd).mem.1 h1
  refine ⟨h1, ?_⟩
  by_cases c : (edd ds).idxOf x = (edd ds).idxOf i
  · rw [(edd_ord hd).inj h1 hi c]
    exact Nat.le_refl _
  · exact edd_idx hd h1 hi (by omega)
theorem edd_le (hd : ds.length = ts.length) (ho : Ord ts.length o) : late ts ds (edd ds) ≤ late ts ds o := by
  rcases late_at (ts := ts) (ds := ds) (o := edd ds) with q | ⟨i, hi, q⟩
  · rw [q]
    exact late0
  · rw [q]
    have hm := mem_take.2 ⟨(edd_ord hd).mem.2 hi, Nat.lt_succ_self _⟩
    exact grp_le ho (List.Nodup.sublist (List.take_sublist _ _) (edd_ord hd).nd) (fun x hx => (edd_take hd hi hx).1) (List.ne_nil_of_mem hm) (fun x hx => (edd_take hd hi hx).2)
/-- the last due -/
def md (ds g : List Nat) : Nat := (g.map (at_ ds)).foldl max 0
theorem fold_go : ∀ (l : List Nat) (a : Nat), l.foldl max a = max a (l.foldl max 0)
  | [], a => by simp
  | x :: l, a => by
    rw [List.foldl_cons, List.foldl_cons, fold_go l (max a x), fold_go l (max 0 x)]
    omega
theorem fold_spec : ∀ {l : List Nat}, l ≠ [] → l.foldl max 0 ∈ l ∧ ∀ y ∈ l, y ≤ l.foldl max 0
  | [x], _ => by simp
  | x :: y :: l, _ => by
    obtain ⟨h1, h2⟩ := fold_spec (l := y :: l) (by simp)
    rw [List.foldl_cons, fold_go]
    generalize (y :: l).foldl max 0 = M at *
    refine ⟨?_, fun z hz => ?_⟩
    · by_cases c : x ≤ M
      · rw [show max (max 0 x) M = M by omega]
        exact List.mem_cons_of_mem _ h1
      · rw [show max (max 0 x) M = x by omega]
        exact List.mem_cons_self
    · rcases List.mem_cons.1 hz with rfl | hz
      · omega
      · have := h2 z hz
        omega
theorem md_spec {g : List Nat} (h : g ≠ []) : md ds g ∈ g.map (at_ ds) ∧ ∀ y ∈ g.map (at_ ds), y ≤ md ds g := fold_spec (by simpa using h)
def shw (ts ds g : List Nat) : Int := if g = [] then 0 else if (sm ts g : Int) - (md ds g : Int) > 0 then (sm ts g : Int) - (md ds g : Int) else 0
theorem shw_le (ho : Ord ts.length o) {g : List Nat} (hn : g.Nodup) (hb : ∀ x ∈ g, x < ts.length) : shw ts ds g ≤ late ts ds o := by
  unfold shw
  split
  · exact late0
  · rename_i c
    split
    · exact grp_le ho hn hb c fun x hx => (md_spec c).2 _ (List.mem_map_of_mem hx)
    · exact late0
/-- the group -/
def gr (ts ds : List Nat) (d : Nat) : List Nat := (List.range ts.length).filter fun i => decide (at_ ds i ≤ d)
theorem gr_chs (d : Nat) : gr ts ds d ∈ chs ts.length := mem_chs.2 ⟨List.Pairwise.filter _ List.pairwise_lt_range, fun x hx => List.mem_range.1 (List.mem_filter.1 hx).1⟩
def stp (ts ds : List Nat) (b : Int × List Nat) (d : Nat) : Int × List Nat := if b.1 < (sm ts (gr ts ds d) : Int) - (d : Int) then ((sm ts (gr ts ds d) : Int) - (d : Int), gr ts ds d) else b
def lg (ts ds : List Nat) : Int × List Nat := (su ds).foldl (stp ts ds) (0, [])
theorem stp_spec : ∀ (l : List Nat) (b : Int × List Nat), 0 ≤ b.1 → (b.2 = [] ∧ b.1 = 0 ∨ ∃ d ∈ ds, b = ((sm ts (gr ts ds d) : Int) - (d : Int), gr ts ds d)) → (∀ d ∈ l, d ∈ ds) →
    0 ≤ (l.foldl (stp ts ds) b).1 ∧ ((l.foldl (stp ts ds) b).2 = [] ∧ (l.foldl (stp ts ds) b).1 = 0 ∨ ∃ d ∈ ds, l.foldl (stp ts ds) b = ((sm ts (gr ts ds d) : Int) - (d : Int), gr ts ds d)) ∧ b.1 ≤ (l.foldl (stp ts ds) b).1 ∧ ∀ d ∈ l, (sm ts (gr ts ds d) : Int) - (d : Int) ≤ (l.foldl (stp ts ds) b).1
  | [], b, h1, h2, _ => ⟨h1, h2, Int.le_refl _, fun d hd => nomatch hd⟩
  | x :: l, b, h1, h2, h3 => by
    rw [List.foldl_cons]
    have hx := h3 x List.mem_cons_self
    have n1 : 0 ≤ (stp ts ds b x).1 ∧ b.1 ≤ (stp ts ds b x).1 ∧ (sm ts (gr ts ds x) : Int) - (x : Int) ≤ (stp ts ds b x).1 := by
      unfold stp
      split <;> refine ⟨?_, ?_, ?_⟩ <;> (try simp only) <;> omega
    have n2 : (stp ts ds b x).2 = [] ∧ (stp ts ds b x).1 = 0 ∨ ∃ d ∈ ds, stp ts ds b x = ((sm ts (gr ts ds d) : Int) - (d : Int), gr ts ds d) := by
      unfold stp
      split
      · exact .inr ⟨x, hx, rfl⟩
      · exact h2
    obtain ⟨g1, g2, g3, g4⟩ := stp_spec l (stp ts ds b x) n1.1 n2 fun d hd => h3 d (List.mem_cons_of_mem _ hd)
    refine ⟨g1, g2, by omega, fun d hd => ?_⟩
    rcases List.mem_cons.1 hd with rfl | hd
    · omega
    · exact g4 d hd
theorem lg_mem : (lg ts ds).2 ∈ chs ts.length := by
  obtain ⟨_, h, _⟩ := stp_spec (ts := ts) (ds := ds) (su ds) (0, []) (by simp) (.inl ⟨rfl, rfl⟩) fun d hd => mem_su.1 hd
  rcases h with ⟨h, _⟩ | ⟨d, _, h⟩
  · show ((su ds).foldl (stp ts ds) (0, [])).2 ∈ _
    rw [h]
    exact mem_chs.2 ⟨.nil, by simp⟩
  · show ((su ds).foldl (stp ts ds) (0, [])).2 ∈ _
    rw [h]
    exact gr_chs d
theorem lg_is (hd : ds.length = ts.length) : shw ts ds (lg ts ds).2 = late ts ds (edd ds) := by
  refine Int.le_antisymm (shw_le (edd_ord hd) (chs_nd lg_mem) (chs_lt lg_mem)) ?_
  obtain ⟨h1, h2, _, h4⟩ := stp_spec (ts := ts) (ds := ds) (su ds) (0, []) (by simp) (.inl ⟨rfl, rfl⟩) fun d hd => mem_su.1 hd
  have h1 : 0 ≤ (lg ts ds).1 := h1
  have h2 : (lg ts ds).2 = [] ∧ (lg ts ds).1 = 0 ∨ ∃ d ∈ ds, lg ts ds = ((sm ts (gr ts ds d) : Int) - (d : Int), gr ts ds d) := h2
  have h4 : ∀ d ∈ su ds, (sm ts (gr ts ds d) : Int) - (d : Int) ≤ (lg ts ds).1 := h4
  have a : late ts ds (edd ds) ≤ (lg ts ds).1 := by
    rcases late_at (ts := ts) (ds := ds) (o := edd ds) with q | ⟨i, hi, q⟩
    · rw [q]
      exact h1
    · rw [q]
      have k := h4 (at_ ds i) (mem_su.2 (at_mem (by omega)))
      have s : en ts (edd ds) i ≤ sm ts (gr ts ds (at_ ds i)) := sm_sub (List.Nodup.sublist (List.take_sublist _ _) (edd_ord hd).nd) fun x hx => by
        obtain ⟨x1, x2⟩ := edd_take hd hi hx
        exact List.mem_filter.2 ⟨List.mem_range.2 x1, by simpa using x2⟩
      unfold lt1
      omega
  refine Int.le_trans a ?_
  rcases h2 with ⟨g1, g2⟩ | ⟨d, hdd, g⟩
  · rw [g2]
    unfold shw
    rw [if_pos g1]
    exact Int.le_refl _
  · by_cases c : gr ts ds d = []
    · rw [g] at h1 ⊢
      unfold shw
      rw [if_pos c]
      show (sm ts (gr ts ds d) : Int) - (d : Int) ≤ 0
      rw [c]
      simp [sm]
    · have m1 : md ds (gr ts ds d) ≤ d := by
        obtain ⟨y, hy, e⟩ := List.mem_map.1 (md_spec (ds := ds) c).1
        rw [← e]
        simpa using (List.mem_filter.1 hy).2
      rw [g]
      unfold shw
      show (sm ts (gr ts ds d) : Int) - (d : Int) ≤ if gr ts ds d = [] then _ else _
      rw [if_neg c]
      simp only
      split <;> omega
/-! who is served -/
def srv (ts : List Nat) (clock : Nat) : Nat → List Nat → List Nat
  | _, [] => []
  | u, x :: xs => if u + at_ ts x ≤ clock then x :: srv ts clock (u + at_ ts x) xs else srv ts clock u xs
theorem srv_no {clock : Nat} : ∀ {xs : List Nat} {u : Nat}, (∀ y ∈ xs, clock < u + at_ ts y) → srv ts clock u xs = []
  | [], _, _ => rfl
  | x :: xs, u, h => by
    have := h x List.mem_cons_self
    unfold srv
    rw [if_neg (by omega)]
    exact srv_no fun y hy => h y (List.mem_cons_of_mem _ hy)
theorem srv_spec {clock : Nat} : ∀ {xs : List Nat} {u : Nat}, u ≤ clock → xs.Pairwise (fun a b => at_ ts a ≤ at_ ts b) → ∃ c, c ≤ xs.length ∧ srv ts clock u xs = xs.take c ∧ u + sm ts (xs.take c) ≤ clock ∧ (c < xs.length → clock < u + sm ts (xs.take (c + 1)))
  | [], u, hu, _ => ⟨0, by simp, rfl, by simpa [sm] using hu, by simp⟩
  | x :: xs, u, hu, h => by
    rw [List.pairwise_cons] at h
    by_cases c : u + at_ ts x ≤ clock
    · obtain ⟨k, h1, h2, h3, h4⟩ := srv_spec c h.2
      refine ⟨k + 1, by simpa using h1, by rw [srv, if_pos c, h2]; rfl, ?_, fun hk => ?_⟩
      · rw [List.take_succ_cons]
        simp only [sm, List.map_cons, List.sum_cons] at h3 ⊢
        omega
      · have := h4 (by simpa using hk)
        rw [List.take_succ_cons]
        simp only [sm, List.map_cons, List.sum_cons] at this ⊢
        omega
    · refine ⟨0, by simp, ?_, by simpa [sm] using hu, fun _ => ?_⟩
      · rw [srv, if_neg c]
        exact srv_no fun y hy => by have := h.1 y hy; omega
      · simp [sm]
        omega
def spt (ts : List Nat) : List Nat := byN (fun i => (at_ ts i : Int)) ts.length
theorem spt_ord : Ord ts.length (spt ts) := byN_ord _ _
theorem spt_pw : (spt ts).Pairwise fun a b => at_ ts a ≤ at_ ts b := (byN_le (fun i => (at_ ts i : Int)) ts.length).imp fun h => by
  simp only [leN, decide_eq_true_eq] at h
  omega
/-- the smallest ones -/
theorem take_small : ∀ {k : Nat} {l : List Nat}, l.Nodup → (∀ x ∈ l, x < ts.length) → l.length = k → sm ts ((spt ts).take k) ≤ sm ts l
  | 0, l, _, _, _ => by simp [sm]
  | k + 1, l, hn, hb, hl => by
    have hq : ∃ x ∈ l, k ≤ (spt ts).idxOf x := by
      by_cases c : ∃ x ∈ l, k ≤ (spt ts).idxOf x
      · exact c
      · have sub : ∀ x ∈ l, x ∈ (spt ts).take k := fun x hx => mem_take.2 ⟨spt_ord.mem.2 (hb x hx), Nat.lt_of_not_le fun q => c ⟨x, hx, q⟩⟩
        have := List.Nodup.length_le_of_subset hn sub
        rw [List.length_take] at this
        omega
    obtain ⟨x, hx, hk⟩ := hq
    have p := List.perm_cons_erase hx
    have ih := take_small (k := k) (l := l.erase x) (List.Nodup.erase _ hn) (fun y hy => hb y (List.mem_of_mem_erase hy)) (by rw [List.length_erase_of_mem hx, hl]; rfl)
    have e : sm ts l = at_ ts x + sm ts (l.erase x) := by
      have := (p.map (at_ ts)).sum_nat
      simpa [sm] using this
    have lx := spt_ord.ix (hb x hx)
    have ll := spt_ord.len (o := spt ts)
    have hk2 : k < (spt ts).length := by omega
    have tk : (spt ts).take (k + 1) = (spt ts).take k ++ [(spt ts)[k]] := List.take_succ_eq_append_getElem hk2
    have le : at_ ts (spt ts)[k] ≤ at_ ts x := by
      by_cases c : (spt ts).idxOf x = k
      · have : (spt ts)[k] = x := by
          have h2 : (spt ts)[(spt ts).idxOf x]'(by omega) = x := List.getElem_idxOf (by omega)
          simp only [c] at h2
          exact h2
        rw [this]
        exact Nat.le_refl _
      · have h2 : (spt ts)[(spt ts).idxOf x]'(by omega) = x := List.getElem_idxOf (by omega)
        have := List.pairwise_iff_getElem.1 (spt_pw (ts := ts)) k ((spt ts).idxOf x) hk2 (by omega) (by omega)
        rw [h2] at this
        exact this
    rw [tk, sm_app, e]
    simp only [sm, List.map_cons, List.map_nil, List.sum_cons, List.sum_nil] at *
    omega
def cnt (ts o : List Nat) (clock : Nat) : Nat := ((List.range ts.length).filter fun i => decide (en ts o i ≤ clock)).length
def got (ts : List Nat) (clock : Nat) : List Nat := srv ts clock 0 (spt ts)
theorem got_nd (ts : List Nat) (clock : Nat) : (got ts clock).Nodup ∧ ∀ x ∈ got ts clock, x < ts.length := by
  obtain ⟨c, h1, h2, _⟩ := srv_spec (ts := ts) (clock := clock) (u := 0) (Nat.zero_le _) (spt_pw (ts := ts))
  unfold got
  rw [h2]
  exact ⟨List.Nodup.sublist (List.take_sublist _ _) spt_ord.nd, fun x hx => spt_ord.mem.1 (List.mem_of_mem_take hx)⟩
theorem cnt_le (ho : Ord ts.length o) (clock : Nat) : cnt ts o clock ≤ (got ts clock).length := by
  obtain ⟨c, h1, h2, h3, h4⟩ := srv_spec (ts := ts) (clock := clock) (u := 0) (Nat.zero_le _) (spt_pw (ts := ts))
  have gl : (got ts clock).length = c := by
    unfold got
    rw [h2, List.length_take]
    omega
  rw [gl]
  unfold cnt
  generalize hL : (List.range ts.length).filter (fun i => decide (en ts o i ≤ clock)) = L
  have nd : L.Nodup := by rw [← hL]; exact List.Nodup.sublist List.filter_sublist List.nodup_range
  have bd : ∀ x ∈ L, x < ts.length ∧ en ts o x ≤ clock := fun x hx => by
    rw [← hL, List.mem_filter, List.mem_range, decide_eq_true_eq] at hx
    exact hx
  have le : sm ts L ≤ clock := by
    by_cases c0 : L = []
    · rw [c0]
      simp [sm]
    · obtain ⟨e, he, hl⟩ := ex_top (xs := L.map o.idxOf) (by simpa using c0)
      obtain ⟨l, hlg, rfl⟩ := List.mem_map.1 he
      have s1 : sm ts L ≤ en ts o l := sm_sub nd fun x hx => mem_take.2 ⟨ho.mem.2 (bd x hx).1, by have := hl _ (List.mem_map_of_mem hx); omega⟩
      have := (bd l hlg).2
      omega
  by_cases q : L.length ≤ c
  · exact q
  · exfalso
    have t := take_small (ts := ts) nd (fun x hx => (bd x hx).1) rfl
    have ll := spt_ord.len (o := spt ts)
    have lm : L.length ≤ ts.length := len_of nd fun x hx => (bd x hx).1
    have h4 := h4 (by omega)
    have mono : sm ts ((spt ts).take (c + 1)) ≤ sm ts ((spt ts).take L.length) := sm_sub (List.Nodup.sublist (List.take_sublist _ _) spt_ord.nd) fun x hx => by
      obtain ⟨x1, x2⟩ := mem_take.1 hx
      exact mem_take.2 ⟨x1, by omega⟩
    omega
theorem cnt_spt (clock : Nat) : cnt ts (spt ts) clock = (got ts clock).length := by
  refine Nat.le_antisymm (cnt_le spt_ord clock) ?_
  obtain ⟨c, h1, h2, h3, h4⟩ := srv_spec (ts := ts) (clock := clock) (u := 0) (Nat.zero_le _) (spt_pw (ts := ts))
  unfold cnt
  refine List.Nodup.length_le_of_subset (got_nd ts clock).1 fun x hx => ?_
  have hx2 := (got_nd ts clock).2 x hx
  rw [List.mem_filter, List.mem_range, decide_eq_true_eq]
  refine ⟨hx2, ?_⟩
  unfold got at hx
  rw [h2] at hx
  obtain ⟨x1, x2⟩ := mem_take.1 hx
  have mono : en ts (spt ts) x ≤ sm ts ((spt ts).take c) := sm_sub (List.Nodup.sublist (List.take_sublist _ _) spt_ord.nd) fun y hy => by
    obtain ⟨y1, y2⟩ := mem_take.1 hy
    exact mem_take.2 ⟨y1, by omega⟩
  omega
/-- those served, rising -/
def srvd (ts : List Nat) (clock : Nat) : List Nat := (List.range ts.length).filter fun x => decide (x ∈ got ts clock)
theorem srvd_sorted (clock : Nat) : sem1 .sorted (.list ((got ts clock).map fun i : Nat => .int (i : Int))) = some (.l ((srvd ts clock).map fun i : Nat => .int (i : Int))) :=
  srt_eq (got_nd ts clock).1 (List.Pairwise.filter _ List.pairwise_lt_range) fun x => by
    unfold srvd
    rw [List.mem_filter, List.mem_range, decide_eq_true_eq]
    exact ⟨fun h => ⟨(got_nd ts clock).2 x h, h⟩, fun h => h.2⟩
theorem srvd_len (clock : Nat) : (srvd ts clock).length = (got ts clock).length := by
  refine List.Perm.length_eq ((List.perm_ext_iff_of_nodup (List.Nodup.sublist List.filter_sublist List.nodup_range) (got_nd ts clock).1).2 fun x => ?_)
  rw [List.mem_filter, List.mem_range, decide_eq_true_eq]
  exact ⟨fun h => h.2, fun h => ⟨(got_nd ts clock).2 x h, h⟩⟩
end
end K29

/-! part K29 -/
set_option Elab.async false
set_option linter.all false
set_option autoImplicit false
set_option maxRecDepth 100000
set_option maxHeartbeats 4000000
/-! k29: what the defs do -/
namespace K29
open PL PySem
theorem gl0 : gl[0]? = some (.int 7) := rfl
theorem gl1 : gl[1]? = some (.int 1000) := rfl
structure Tm (ts : List Nat) : Prop where
  l : ts.length ≤ 7
  b : ∀ x ∈ ts, 1 ≤ x ∧ x ≤ 1000
structure Wg (m : Nat) (ws : List Nat) : Prop where
  l : ws.length = m
  b : ∀ x ∈ ws, 1 ≤ x ∧ x ≤ 100
structure Du (m : Nat) (ds : List Nat) : Prop where
  l : ds.length = m
  b : ∀ x ∈ ds, x ≤ 7000
theorem zip_nat {xs ys : List Nat} {m : Nat} (h1 : xs.length = m) (h2 : ys.length = m) : zipD (xs.map fun i : Nat => .int (i : Int)) (ys.map fun i : Nat => .int (i : Int)) = (List.range m).map fun i : Nat => .tuple [.int (at_ xs i : Nat), .int (at_ ys i : Nat)] := by
  unfold zipD
  apply List.ext_getElem
  · simp [h1, h2]
  · intro k g1 g2
    have hk : k < m := by simpa using g2
    simp [List.getElem_zipWith, at_, List.getD_eq_getElem?_getD, List.getElem?_eq_getElem (show k < xs.length by omega), List.getElem?_eq_getElem (show k < ys.length by omega)]
theorem ix_at {xs : List Nat} {x : Nat} (h : x < xs.length) : sem2 .ix (tn xs) (.int (x : Int)) = some (.v (.int (at_ xs x : Nat))) := ix_tn xs x h
theorem lt_ii (p q : Int × Int) : sem2 .lt (ii p) (ii q) = some (.v (.bool (decide (p.1 < q.1 ∨ (p.1 = q.1 ∧ p.2 < q.2))))) := by
  have : sem2 .lt (ii p) (ii q) = cmpSem (fun i j => decide (i < j)) W.dataLt (ii p) (ii q) := rfl
  rw [this, ← dataLt_ii']
  have a := alike_ii p q
  have f1 : flatD (ii p) = true := by simp [flatD, ii, PyData.depth, PyData.depthAll]
  have f2 : flatD (ii q) = true := by simp [flatD, ii, PyData.depth, PyData.depthAll]
  have t : ∀ p, ii p = .tuple [.int p.1, .int p.2] := fun _ => rfl
  simp only [t] at *
  simp only [cmpSem, a, f1, f2, Bool.and_self, if_true]
  rfl
variable {fuel n : Nat} {ts ws ds o : List Nat}
theorem ends_at {i : Nat} (hi : i < ts.length) : at_ (ends ts o) i = en ts o i := by
  unfold at_ ends
  rw [List.getD_eq_getElem?_getD, List.getElem?_map, List.getElem?_range hi]
  rfl
theorem ends_len : (ends ts o).length = ts.length := by simp [ends]
theorem c_dt (ht : Tm ts) : callF P gl fuel (n + 3) 15 [.val (tn ts)] = .ok (.v .none) [.val (tn ts)] := by
  have d1 := c_demand (P := P) (gl := gl) (fuel := fuel) (n := n + 1) rfl
  have hl := ht.l
  have d3 := c_are_in (P := P) (gl := gl) (fuel := fuel) (n := n) rfl rfl rfl (tn ts) 0 7 1 1000 (fun xs hx => by cases hx; simp; omega)
  rw [areIn_tn _ _ _ _ _ (by omega) (by omega) (fun x hx => by have := ht.b x hx; omega)] at d3
  rw [callF_eq (fd := ⟨1, 1, b_demand_times⟩) rfl (by rfl)]
  simp [b_demand_times, d1, d3, gl0, gl1]
theorem c_dw (ht : Tm ts) (hw : Wg ts.length ws) : callF P gl fuel (n + 4) 18 [.val (tn ts), .val (tn ws)] = .ok (.v .none) [.val (tn ts), .val (tn ws)] := by
  have d0 := c_dt (fuel := fuel) (n := n) ht
  have d1 := c_demand (P := P) (gl := gl) (fuel := fuel) (n := n + 2) rfl
  have hl := ht.l
  have wl := hw.l
  have d3 := c_are_in (P := P) (gl := gl) (fuel := fuel) (n := n + 1) rfl rfl rfl (tn ws) (ts.length : Int) (ts.length : Int) 1 100 (fun xs hx => by cases hx; simp; omega)
  rw [areIn_tn _ _ _ _ _ (by omega) (by omega) (fun x hx => by have := hw.b x hx; omega)] at d3
  rw [callF_eq (fd := ⟨2, 2, b_demand_weights⟩) rfl (by rfl)]
  simp [b_demand_weights, d0, d1, d3]
theorem c_dd (ht : Tm ts) (hd : Du ts.length ds) : callF P gl fuel (n + 4) 22 [.val (tn ts), .val (tn ds)] = .ok (.v .none) [.val (tn ts), .val (tn ds)] := by
  have d0 := c_dt (fuel := fuel) (n := n) ht
  have d1 := c_demand (P := P) (gl := gl) (fuel := fuel) (n := n + 2) rfl
  have hl := ht.l
  have wl := hd.l
  have d3 := c_are_in (P := P) (gl := gl) (fuel := fuel) (n := n + 1) rfl rfl rfl (tn ds) (ts.length : Int) (ts.length : Int) 0 7000 (fun xs hx => by cases hx; simp; omega)
  rw [areIn_tn _ _ _ _ _ (by omega) (by omega) (fun x hx => by have := hd.b x hx; omega)] at d3
  have m1 : mulOk 1000 7 = true := by decide
  rw [callF_eq (fd := ⟨2, 2, b_demand_dues⟩) rfl (by rfl)]
  simp [b_demand_dues, d0, d1, d3, gl0, gl1, m1]
def fnd (ts o : List Nat) (k : Nat) : List Nat := (List.range ts.length).map fun x => if o.idxOf x < k then en ts o x else 0
theorem fnd_set (ho : Ord ts.length o) {k : Nat} (hk : k < ts.length) : (fnd ts o k).set (o.getD k 0) (sm ts (o.take (k + 1))) = fnd ts o (k + 1) := by
  have hg := ho.get hk
  have e := ho.ia hk
  unfold fnd
  refine List.ext_getElem (by simp) fun j h1 h2 => ?_
  have hj : j < ts.length := by simpa using h2
  rw [List.getElem_set]
  simp only [List.getElem_map, List.getElem_range]
  by_cases c : o.getD k 0 = j
  · have e2 : o.idxOf j = k := by rw [← c]; exact e
    rw [if_pos c, if_pos (by omega), en, e2]
  · rw [if_neg c]
    have ne : o.idxOf j ≠ k := fun h => c (ho.inj hg hj (by rw [e, h]))
    by_cases c2 : o.idxOf j < k
    · rw [if_pos c2, if_pos (by omega)]
    · rw [if_neg c2, if_neg (by omega)]
theorem sm_succ (ho : Ord ts.length o) {k : Nat} (hk : k < ts.length) : sm ts (o.take (k + 1)) = sm ts (o.take k) + at_ ts (o.getD k 0) := by
  have hk2 : k < o.length := by rw [ho.len]; exact hk
  rw [List.take_succ_eq_append_getElem hk2, sm_app, List.getD_eq_getElem?_getD, List.getElem?_eq_getElem hk2]
  rfl
theorem c_ends (ht : Tm ts) (ho : Ord ts.length o) : callF P gl fuel (n + 1) 17 [.val (tn ts), .val (tn o)] = .ok (.v (tn (ends ts o))) [.val (tn ts), .val (tn o)] := by
  have hl := ht.l
  have ol := ho.len
  have w0 : (fnd ts o 0).map (fun i : Nat => PyData.int (i : Int)) = List.replicate ts.length (.int 0) := by
    unfold fnd
    rw [List.map_map, show ((fun i : Nat => PyData.int (i : Int)) ∘ fun x => if o.idxOf x < 0 then en ts o x else 0) = fun _ => .int 0 from by funext x; simp, List.map_const']
    simp
  have key := for_ix (ft := callF P gl fuel n) (gl := gl) (fuel := fuel) (w := [2]) (pt := .nm 2) (body := (.cons (.aug 4 (.op2 .ix (.b 0) (.b 2)))
  (.cons (.setI 3 (.var 2) (.var 4))
  .nil)))
    (fun i : Nat => .int (i : Int)) (fun k => [.val (tn ts), .val (tn o), .non, .own ((fnd ts o k).map fun i : Nat => .int (i : Int)), .val (.int (sm ts (o.take k) : Nat))]) o (fun k hk => by
      have hk : k < ts.length := by rw [← ol]; exact hk
      have hg := ho.get hk
      have i1 := ix_at hg
      have lf : (fnd ts o k).length = ts.length := by simp [fnd]
      have xn := ixN_nat ((fnd ts o k).map fun i : Nat => PyData.int (i : Int)).length (o.getD k 0) (by simpa [lf] using hg)
      have fs := fnd_set ho hk
      have sc := sm_succ ho hk
      have fs2 : ((fnd ts o k).map fun i : Nat => PyData.int (i : Int)).set (o.getD k 0) (.int (sm ts (o.take (k + 1)) : Nat)) = (fnd ts o (k + 1)).map fun i : Nat => PyData.int (i : Int) := by
        rw [← fs, List.map_set]
      have ge : o[k] = o.getD k 0 := by rw [List.getD_eq_getElem?_getD, List.getElem?_eq_getElem]; rfl
      rw [ge]
      have sc2 : ((sm ts (o.take k) : Nat) : Int) + (at_ ts (o.getD k 0) : Nat) = (sm ts (o.take (k + 1)) : Nat) := by omega
      generalize sm ts (o.take (k + 1)) = S1 at *
      generalize sm ts (o.take k) = S0 at *
      generalize o.getD k 0 = w at *
      generalize ((fnd ts o k).map fun i : Nat => PyData.int (i : Int)) = W at *
      simp [sc2, i1, xn, fs2])
  rw [w0, ol, List.take_zero] at key
  have s0 : ((sm ts [] : Nat) : Int) = 0 := rfl
  rw [s0] at key
  have fe : fnd ts o ts.length = ends ts o := by
    unfold fnd ends
    exact List.map_congr_left fun x hx => by rw [if_pos (ho.ix (List.mem_range.1 hx))]
  rw [fe] at key
  have rp : evE (callF P gl fuel n) gl (.repL (.cons (.int 0) .nil) (.op1 .len (.b 0))) [.val (tn ts), .val (tn o), .non, .non, .non] = .ok (.l (List.replicate ts.length (.int 0))) [.val (tn ts), .val (tn o), .non, .non, .non] := by
    have := rep_of (ft := callF P gl fuel n) (gl := gl) (x := .int 0) (n := .op1 .len (.b 0)) (d := .int 0) (env := [.val (tn ts), .val (tn o), .non, .non, .non]) (k := (ts.length : Int)) (by simp) (by simp) (by omega) (by omega)
    simpa using this
  have tq := q1_tup_nat (ends ts o)
  rw [callF_eq (fd := ⟨2, 5, b_ends⟩) rfl (by rfl)]
  simp [b_ends, rp, key, tq, -q1_tupl]
theorem c_order (ho : Ord ts.length o) (hl : ts.length ≤ 7) : callF P gl fuel (n + 3) 5 [.val (tn o), .val (.int (ts.length : Int))] = .ok (.v (.bool true)) [.val (tn o), .val (.int (ts.length : Int))] := by
  have := c_is_order (P := P) (gl := gl) (fuel := fuel) (n := n) rfl rfl rfl rfl (tn o) (ts.length : Int) (fun xs hx => by cases hx; simp; have := ho.len; omega)
  rw [perm_isOrd ho] at this
  exact this
theorem c_endsof (ht : Tm ts) (ho : Ord ts.length o) : callF P gl fuel (n + 4) 16 [.val (tn ts), .val (tn o)] = .ok (.v (tn (ends ts o))) [.val (tn ts), .val (tn o)] := by
  have d0 := c_dt (fuel := fuel) (n := n) ht
  have d1 := c_demand (P := P) (gl := gl) (fuel := fuel) (n := n + 2) rfl
  have d2 := c_order (fuel := fuel) (n := n) ho ht.l
  have d3 := c_ends (fuel := fuel) (n := n + 2) ht ho
  rw [callF_eq (fd := ⟨2, 2, b_ends_of⟩) rfl (by rfl)]
  simp [b_ends_of, d0, d1, d2, d3]
theorem en_bnd (ht : Tm ts) (ho : Ord ts.length o) (i : Nat) : en ts o i ≤ 7000 := by
  have h1 : ∀ l : List Nat, (∀ x ∈ l, x < ts.length) → sm ts l ≤ 1000 * l.length := fun l => by
    induction l with
    | nil => intro _; simp [sm]
    | cons x l ih =>
      intro h
      have a := ih fun y hy => h y (List.mem_cons_of_mem _ hy)
      have b := (ht.b _ (at_mem (h x List.mem_cons_self))).2
      simp only [sm, List.map_cons, List.sum_cons, List.length_cons] at a ⊢
      omega
  have h2 := h1 (o.take (o.idxOf i + 1)) fun x hx => ho.mem.1 (List.mem_of_mem_take hx)
  have h3 : (o.take (o.idxOf i + 1)).length ≤ o.length := by rw [List.length_take]; omega
  have h4 := ho.len
  have h5 := ht.l
  unfold en
  omega
theorem c_wt (ht : Tm ts) (hw : Wg ts.length ws) (ho : Ord ts.length o) : callF P gl fuel (n + 5) 19 [.val (tn ts), .val (tn ws), .val (tn o)] = .ok (.v (.int (wt ts ws o : Nat))) [.val (tn ts), .val (tn ws), .val (tn o)] := by
  have d0 := c_dw (fuel := fuel) (n := n) ht hw
  have d1 := c_demand (P := P) (gl := gl) (fuel := fuel) (n := n + 3) rfl
  have d2 := c_order (fuel := fuel) (n := n + 1) ho ht.l
  have d3 := c_ends (fuel := fuel) (n := n + 3) ht ho
  have zp := zip_nat (xs := ends ts o) (ys := ws) ends_len hw.l
  have hl := ht.l
  have e := comp_map (ft := callF P gl fuel (n + 4)) (gl := gl) (own := [3, 4]) (pt := .two (.nm 3) (.nm 4)) (hc := false) (c := .none) (e := .op2 .mul (.b 3) (.b 4)) (en := [.val (tn ts), .val (tn ws), .val (tn o), .non, .non])
    (fun i : Nat => .tuple [.int (at_ (ends ts o) i : Nat), .int (at_ ws i : Nat)]) (fun i => .int ((en ts o i * at_ ws i : Nat) : Int)) (List.range ts.length) fun i hi => by
      have hi := List.mem_range.1 hi
      have wb := (hw.b _ (at_mem (xs := ws) (k := i) (by rw [hw.l]; exact hi))).2
      have mo : mulOk (en ts o i : Int) (at_ ws i : Int) = true := mulOk_r (by omega)
      rw [ends_at hi]
      simp [mo]
  have si := intsOf_nat (fun i => en ts o i * at_ ws i) (List.range ts.length)
  have ss := sum_nat (fun i => en ts o i * at_ ws i) (List.range ts.length)
  have ss2 : ((List.range ts.length).map fun i => en ts o i * at_ ws i).sum = wt ts ws o := rfl
  rw [ss2] at ss
  have hz : szOk ts.length = true := sz_of (by omega)
  rw [callF_eq (fd := ⟨3, 5, b_waiting⟩) rfl (by rfl)]
  simp [b_waiting, d0, d1, d2, d3, zp, e, hz, si, ss, compEnd, -Int.natCast_mul]
theorem c_lends (ht : Tm ts) (ho : Ord ts.length o) : callF P gl fuel (n + 1) 28 [.val (tn ts), .val (tn o)] = .ok (.v (tn (ends ts o))) [.val (tn ts), .val (tn o)] := by
  have hl := ht.l
  have r1 := rng1_nat (m := ts.length) (by omega)
  have e := comp_map (ft := callF P gl fuel n) (gl := gl) (own := [2]) (pt := .nm 2) (hc := false) (c := .none) (e := .op1 .sum (.e (.comp [3] (.nm 3) (.seq (.e (.sl (.b 1) .no (.so (.op2 .add (.e (.meth .index (.b 1) (.b 2))) (.e (.int 1))))))) false .none (.op2 .ix (.b 0) (.b 3))))) (en := [.val (tn ts), .val (tn o), .non, .non])
    (fun i : Nat => .int (i : Int)) (fun i => .int (en ts o i : Nat)) (List.range ts.length) fun i hi => by
      have hi := List.mem_range.1 hi
      have ix := ix_index_tn o i (ho.mem.2 hi)
      have sl := sl_tn_to o (o.idxOf i + 1)
      simp only [Int.natCast_add, Int.cast_ofNat_Int] at sl
      have sq := seqOf_tn (o.take (o.idxOf i + 1))
      have e := comp_map (ft := callF P gl fuel n) (gl := gl) (own := [3]) (pt := .nm 3) (hc := false) (c := .none) (e := .op2 .ix (.b 0) (.b 3)) (en := [.val (tn ts), .val (tn o), .val (.int (i : Int)), .non])
        (fun i : Nat => .int (i : Int)) (fun x => .int (at_ ts x : Nat)) (o.take (o.idxOf i + 1)) fun x hx => by simp [ix_at (ho.mem.1 (List.mem_of_mem_take hx))]
      have ol := ho.len
      have hz : szOk (o.take (o.idxOf i + 1)).length = true := sz_of (by rw [List.length_take]; omega)
      have si := intsOf_nat (at_ ts) (o.take (o.idxOf i + 1))
      have ss := sum_nat (at_ ts) (o.take (o.idxOf i + 1))
      have ss2 : ((o.take (o.idxOf i + 1)).map (at_ ts)).sum = en ts o i := rfl
      rw [ss2] at ss
      have ms : meS .index (PyData.int (i : Int)) (tn o) = some (.v (.int (o.idxOf i : Nat))) := ix
      generalize o.take (o.idxOf i + 1) = B at *
      simp [ms, sl, sq, e, hz, si, ss, compEnd]
  have tq := q1_tup_nat (ends ts o)
  have ee : (List.range ts.length).map (fun i => PyData.int (en ts o i : Nat)) = (ends ts o).map fun i : Nat => .int (i : Int) := by
    unfold ends
    rw [List.map_map]
    rfl
  rw [ee] at e
  have zl := ends_len (ts := ts) (o := o)
  have hz : szOk ts.length = true := sz_of (by omega)
  generalize hB : (ends ts o).map (fun i : Nat => PyData.int (i : Int)) = B at *
  have lB : B.length = ts.length := by rw [← hB, List.length_map, zl]
  rw [callF_eq (fd := ⟨2, 4, b__law_ends⟩) rfl (by rfl)]
  simp [b__law_ends, r1, e, hz, lB, tq, compEnd, -q1_tupl]
theorem c_lwt (ht : Tm ts) (hw : Wg ts.length ws) (ho : Ord ts.length o) : callF P gl fuel (n + 2) 29 [.val (tn ts), .val (tn ws), .val (tn o)] = .ok (.v (.int (wt ts ws o : Nat))) [.val (tn ts), .val (tn ws), .val (tn o)] := by
  have d3 := c_lends (fuel := fuel) (n := n) ht ho
  have zp := zip_nat (xs := ends ts o) (ys := ws) ends_len hw.l
  have hl := ht.l
  have e := comp_map (ft := callF P gl fuel (n + 1)) (gl := gl) (own := [3, 4]) (pt := .two (.nm 3) (.nm 4)) (hc := false) (c := .none) (e := .op2 .mul (.b 3) (.b 4)) (en := [.val (tn ts), .val (tn ws), .val (tn o), .non, .non])
    (fun i : Nat => .tuple [.int (at_ (ends ts o) i : Nat), .int (at_ ws i : Nat)]) (fun i => .int ((en ts o i * at_ ws i : Nat) : Int)) (List.range ts.length) fun i hi => by
      have hi := List.mem_range.1 hi
      have wb := (hw.b _ (at_mem (xs := ws) (k := i) (by rw [hw.l]; exact hi))).2
      have mo : mulOk (en ts o i : Int) (at_ ws i : Int) = true := mulOk_r (by omega)
      rw [ends_at hi]
      simp [mo]
  have si := intsOf_nat (fun i => en ts o i * at_ ws i) (List.range ts.length)
  have ss := sum_nat (fun i => en ts o i * at_ ws i) (List.range ts.length)
  have ss2 : ((List.range ts.length).map fun i => en ts o i * at_ ws i).sum = wt ts ws o := rfl
  rw [ss2] at ss
  have hz : szOk ts.length = true := sz_of (by omega)
  rw [callF_eq (fd := ⟨3, 5, b__law_waiting⟩) rfl (by rfl)]
  simp [b__law_waiting, d3, zp, e, hz, si, ss, compEnd, -Int.natCast_mul]
end K29

/-! part K29M -/
set_option Elab.async false
set_option linter.all false
set_option autoImplicit false
set_option maxRecDepth 100000
set_option maxHeartbeats 4000000
/-! k29: the rule of ratios, lateness -/
namespace K29
open PL PySem
variable {fuel n : Nat} {ts ws ds o : List Nat}
theorem ix_ln {xs : List Nat} {x : Nat} (h : x < xs.length) : sem2 .ix (.list (xs.map fun i : Nat => .int (i : Int))) (.int (x : Int)) = some (.v (.int (at_ xs x : Nat))) :=
  (q2_ixl _ _).trans ((q2_ixt _ _).symm.trans (ix_at h))
theorem Tm.pos (ht : Tm ts) : Pos ts.length ts := ⟨rfl, fun x hx => (ht.b x hx).1⟩
theorem Wg.pos {m : Nat} (hw : Wg m ws) : Pos m ws := ⟨hw.l, fun x hx => (hw.b x hx).1⟩
theorem Tm.at (ht : Tm ts) {x : Nat} (hx : x < ts.length) : at_ ts x ≤ 1000 := (ht.b _ (at_mem hx)).2
theorem c_first (ht : Tm ts) (hw : Wg ts.length ws) {a b : Nat} (ha : a < b) (hb : b < ts.length) : callF P gl fuel (n + 1) 20 [.val (tn ts), .val (tn ws), .val (.int (a : Int)), .val (.int (b : Int))] = .ok (.v (.bool (leS ts ws a b))) [.val (tn ts), .val (tn ws), .val (.int (a : Int)), .val (.int (b : Int))] := by
  have ha2 : a < ts.length := by omega
  have i1 := ix_at ha2
  have i2 := ix_at hb
  have i3 := ix_at (show a < ws.length by rw [hw.l]; exact ha2)
  have i4 := ix_at (show b < ws.length by rw [hw.l]; exact hb)
  have b1 := ht.at ha2
  have b2 := ht.at hb
  have m1 : mulOk (at_ ts a : Int) (at_ ws b : Int) = true := mulOk_l (by omega)
  have m2 : mulOk (at_ ts b : Int) (at_ ws a : Int) = true := mulOk_l (by omega)
  have lt := lt_ii ((at_ ts a : Int) * (at_ ws b : Int), (a : Int)) ((at_ ts b : Int) * (at_ ws a : Int), (b : Int))
  simp only [ii] at lt
  have e : leS ts ws a b = decide ((at_ ts a : Int) * (at_ ws b : Int) < (at_ ts b : Int) * (at_ ws a : Int) ∨ ((at_ ts a : Int) * (at_ ws b : Int) = (at_ ts b : Int) * (at_ ws a : Int) ∧ (a : Int) < (b : Int))) := by
    rw [leS_eq ht.pos hw.pos ha2 hb, decide_eq_decide, ← Int.natCast_mul, ← Int.natCast_mul]
    omega
  rw [e, callF_eq (fd := ⟨4, 6, b_comes_first⟩) rfl (by rfl)]
  simp [b_comes_first, i1, i2, i3, i4, m1, m2, lt]
theorem c_lw (ht : Tm ts) (hw : Wg ts.length ws) : callF P gl fuel (n + 5) 21 [.val (tn ts), .val (tn ws)] = .ok (.v (tn (smt ts ws ts.length))) [.val (tn ts), .val (tn ws)] := by
  have d0 := c_dw (fuel := fuel) (n := n) ht hw
  have hl := ht.l
  have r1 := rng1_nat (m := ts.length) (by omega)
  have key := for_range (ft := callF P gl fuel (n + 4)) (gl := gl) (fuel := fuel) (w := [3, 4]) (pt := .nm 3) (body := (.cons (.set false 4 (.op1 .len (.e (.comp [5] (.nm 5) (.seq (.b 2)) true (.call 20 (.cons (.var 0) (.cons (.var 1) (.cons (.var 5) (.cons (.var 3) .nil))))) (.int 1)))))
  (.cons (.ins 2 (.var 4) (.var 3))
  .nil)))
    (fun k => [.val (tn ts), .val (tn ws), .own ((smt ts ws k).map fun i : Nat => .int (i : Int)), .non, .non, .non]) ts.length (fun k hk => by
      have sl := (smt_ord ts ws k).len
      have e := comp_sim (ft := callF P gl fuel (n + 4)) (gl := gl) (own := [5]) (pt := .nm 5) (hc := true) (c := .call 20 (.cons (.var 0) (.cons (.var 1) (.cons (.var 5) (.cons (.var 3) .nil))))) (e := .int 1) (en := [.val (tn ts), .val (tn ws), .lk ((smt ts ws k).map fun i : Nat => .int (i : Int)), .val (.int (k : Int)), .non, .non])
        (fun i : Nat => .int (i : Int)) (fun x => leS ts ws x k) (fun _ => .int 1) (smt ts ws k) fun x hx => by
          have hx := (smt_ord ts ws k).mem.1 hx
          have q := c_first (fuel := fuel) (n := n + 3) ht hw hx hk
          cases hq : leS ts ws x k with
          | true => rw [hq] at q; simp [q]
          | false => rw [hq] at q; simp [q]
      have fl : ((smt ts ws k).filter fun x => leS ts ws x k).length ≤ (smt ts ws k).length := List.length_filter_le _ _
      have si := smt_ins ts ws k
      have hz : szOk (((smt ts ws k).filter fun x => leS ts ws x k).map fun _ => PyData.int 1).length = true := sz_of (by rw [List.length_map]; omega)
      have ln : (((smt ts ws k).filter fun x => leS ts ws x k).map fun _ => PyData.int 1).length = ((smt ts ws k).filter fun x => leS ts ws x k).length := List.length_map ..
      rw [ln] at hz
      generalize ((smt ts ws k).filter fun x => leS ts ws x k).map (fun _ => PyData.int 1) = R at *
      generalize ((smt ts ws k).filter fun x => leS ts ws x k).length = c at *
      have ins := ins_of (ft := callF P gl fuel (n + 4)) (gl := gl) (fuel := fuel) (i := 2) (k := c) (a := .var 4) (e := .var 3) (env := [.val (tn ts), .val (tn ws), .own ((smt ts ws k).map fun i : Nat => .int (i : Int)), .val (.int (k : Int)), .val (.int (c : Int)), .non]) (xs := (smt ts ws k).map fun i : Nat => .int (i : Int)) (d := .v (.int (k : Int))) (by simp) (by simp) (by rw [List.length_map]; omega) (by simp) (sz_of (by rw [List.length_map]; omega))
      have e2 : ((smt ts ws k).map fun i : Nat => PyData.int (i : Int)).take c ++ PyData.int (k : Int) :: ((smt ts ws k).map fun i : Nat => PyData.int (i : Int)).drop c = (smt ts ws (k + 1)).map fun i : Nat => PyData.int (i : Int) := by
        rw [← si, List.map_append, List.map_cons, List.map_take, List.map_drop]
      refine turn_of (e1 := [.val (tn ts), .val (tn ws), .own ((smt ts ws k).map fun i : Nat => .int (i : Int)), .val (.int (k : Int)), .non, .non]) (e2 := [.val (tn ts), .val (tn ws), .own ((smt ts ws (k + 1)).map fun i : Nat => .int (i : Int)), .val (.int (k : Int)), .val (.int (c : Int)), .non]) (by simp) ?_ (by simp [forgE_cons, forgE, fgS, gt_z, gt_s])
      refine seq_step (e' := [.val (tn ts), .val (tn ws), .own ((smt ts ws k).map fun i : Nat => .int (i : Int)), .val (.int (k : Int)), .val (.int (c : Int)), .non]) ?_ ?_
      · simp [e, hz, ln, compEnd]
      refine seq_step ins ?_
      rw [← e2]
      simp)
  have s0 : smt ts ws 0 = [] := by simp [smt]
  rw [s0] at key
  simp only [List.map_nil] at key
  have tq := q1_tup_nat (smt ts ws ts.length)
  rw [callF_eq (fd := ⟨2, 6, b_least_waiting⟩) rfl (by rfl)]
  simp [b_least_waiting, d0, r1, key, tq, -q1_tupl]
theorem c_ratio (ht : Tm ts) (hw : Wg ts.length ws) : callF P gl fuel (n + 1) 31 [.val (tn ts), .val (tn ws)] = .ok (.v (tn (smt ts ws ts.length))) [.val (tn ts), .val (tn ws)] := by
  have hl := ht.l
  have r1 := rng1_nat (m := ts.length) (by omega)
  have so := smt_ord ts ws ts.length
  have sl := so.len
  have key := for_range (ft := callF P gl fuel n) (gl := gl) (fuel := fuel) (w := [2, 5]) (pt := .nm 2) (body := (.cons (.set false 5 (.comp [6] (.nm 6) (.seq (.b 3)) true (.op1 .all (.e (.comp [7] (.nm 7) (.seq (.b 3)) false .none (.op2 .le (.e (.op2 .mul (.e (.op2 .ix (.b 0) (.b 6))) (.e (.op2 .ix (.b 1) (.b 7))))) (.e (.op2 .mul (.e (.op2 .ix (.b 0) (.b 7))) (.e (.op2 .ix (.b 1) (.b 6))))))))) (.var 6)))
  (.cons (.app 4 (.op2 .ix (.b 5) (.e (.int 0))))
  (.cons (.rem 3 (.op2 .ix (.b 5) (.e (.int 0))))
  .nil))))
    (fun k => [.val (tn ts), .val (tn ws), .non, .own ((rest ts ws ts.length k).map fun i : Nat => .int (i : Int)), .own (((smt ts ws ts.length).take k).map fun i : Nat => .int (i : Int)), .non, .non, .non]) ts.length (fun k hk => by
      obtain ⟨r, hr⟩ := good_head (k := k) ht.pos hw.pos hk
      have er := rest_erase (ts := ts) (ws := ws) hk
      have hk2 : k < (smt ts ws ts.length).length := by omega
      have tk : (smt ts ws ts.length).take (k + 1) = (smt ts ws ts.length).take k ++ [(smt ts ws ts.length).getD k 0] := by
        rw [List.take_succ_eq_append_getElem hk2, List.getD_eq_getElem?_getD, List.getElem?_eq_getElem hk2]
        rfl
      have rb : ∀ x ∈ rest ts ws ts.length k, x < ts.length := fun x hx => List.mem_range.1 (List.mem_filter.1 hx).1
      have rl : (rest ts ws ts.length k).length ≤ 7 := by
        have : (rest ts ws ts.length k).length ≤ (List.range ts.length).length := List.length_filter_le _ _
        rw [List.length_range] at this
        omega
      have gin : (smt ts ws ts.length).getD k 0 ∈ rest ts ws ts.length k := by
        have : (smt ts ws ts.length).getD k 0 ∈ good ts ws (rest ts ws ts.length k) := by rw [hr]; exact List.mem_cons_self
        exact (List.mem_filter.1 this).1
      rw [tk, ← er]
      have tl : ((smt ts ws ts.length).take k).length = k := by rw [List.length_take]; omega
      generalize rest ts ws ts.length k = R at *
      generalize (smt ts ws ts.length).getD k 0 = g at *
      generalize (smt ts ws ts.length).take k = T at *
      have e := comp_sim (ft := callF P gl fuel n) (gl := gl) (own := [6]) (pt := .nm 6) (hc := true) (c := .op1 .all (.e (.comp [7] (.nm 7) (.seq (.b 3)) false .none (.op2 .le (.e (.op2 .mul (.e (.op2 .ix (.b 0) (.b 6))) (.e (.op2 .ix (.b 1) (.b 7))))) (.e (.op2 .mul (.e (.op2 .ix (.b 0) (.b 7))) (.e (.op2 .ix (.b 1) (.b 6))))))))) (e := .var 6) (en := [.val (tn ts), .val (tn ws), .val (.int (k : Int)), .lk (R.map fun i : Nat => .int (i : Int)), .own (T.map fun i : Nat => .int (i : Int)), .non, .non, .non])
        (fun i : Nat => .int (i : Int)) (fun a => R.all fun b => decide (at_ ts a * at_ ws b ≤ at_ ts b * at_ ws a)) (fun i : Nat => .int (i : Int)) R fun a ha => by
          have ha2 := rb a ha
          have i1 := ix_at ha2
          have i3 := ix_at (show a < ws.length by rw [hw.l]; exact ha2)
          have b1 := ht.at ha2
          have e := comp_map (ft := callF P gl fuel n) (gl := gl) (own := [7]) (pt := .nm 7) (hc := false) (c := .none) (e := .op2 .le (.e (.op2 .mul (.e (.op2 .ix (.b 0) (.b 6))) (.e (.op2 .ix (.b 1) (.b 7))))) (.e (.op2 .mul (.e (.op2 .ix (.b 0) (.b 7))) (.e (.op2 .ix (.b 1) (.b 6)))))) (en := [.val (tn ts), .val (tn ws), .val (.int (k : Int)), .lk (R.map fun i : Nat => .int (i : Int)), .own (T.map fun i : Nat => .int (i : Int)), .non, .val (.int (a : Int)), .non])
            (fun i : Nat => .int (i : Int)) (fun b => .bool (decide (at_ ts a * at_ ws b ≤ at_ ts b * at_ ws a))) R fun b hb => by
              have hb2 := rb b hb
              have i2 := ix_at hb2
              have i4 := ix_at (show b < ws.length by rw [hw.l]; exact hb2)
              have b2 := ht.at hb2
              have m1 : mulOk (at_ ts a : Int) (at_ ws b : Int) = true := mulOk_l (by omega)
              have m2 : mulOk (at_ ts b : Int) (at_ ws a : Int) = true := mulOk_l (by omega)
              have q : decide ((at_ ts a : Int) * (at_ ws b : Int) ≤ (at_ ts b : Int) * (at_ ws a : Int)) = decide (at_ ts a * at_ ws b ≤ at_ ts b * at_ ws a) := by
                rw [decide_eq_decide, ← Int.natCast_mul, ← Int.natCast_mul]
                omega
              simp [i1, i2, i3, i4, m1, m2, q]
          have hb : boolsOf (R.map fun b => .bool (decide (at_ ts a * at_ ws b ≤ at_ ts b * at_ ws a))) = some (R.map fun b => decide (at_ ts a * at_ ws b ≤ at_ ts b * at_ ws a)) := by
            rw [← boolsOf_map, List.map_map]; rfl
          have ba : (R.map fun b => decide (at_ ts a * at_ ws b ≤ at_ ts b * at_ ws a)).all id = R.all fun b => decide (at_ ts a * at_ ws b ≤ at_ ts b * at_ ws a) := by
            rw [List.all_map]
            rfl
          have hz : szOk R.length = true := sz_of (by omega)
          cases hq : R.all fun b => decide (at_ ts a * at_ ws b ≤ at_ ts b * at_ ws a) with
          | true =>
            rw [hq] at ba
            simp [e, hz, hb, ba, compEnd, -List.all_map, -List.all_eq_true]
          | false =>
            rw [hq] at ba
            simp [e, hz, hb, ba, compEnd, -List.all_map, -List.all_eq_true, -List.all_eq_false]
      have gd : R.filter (fun a => R.all fun b => decide (at_ ts a * at_ ws b ≤ at_ ts b * at_ ws a)) = g :: r := hr
      rw [gd] at e
      have gl1 : (g :: r).length ≤ 7 := by rw [← gd]; exact Nat.le_trans (List.length_filter_le _ _) rl
      have hz : szOk (g :: r).length = true := sz_of (by omega)
      have hz1 : szOk (T.length + 1) = true := sz_of (by omega)
      have ix : sem2 .ix (.list ((g :: r).map fun i : Nat => .int (i : Int))) (.int 0) = some (.v (.int (g : Int))) := ix_ln (xs := g :: r) (x := 0) (by simp)
      refine turn_of (e1 := [.val (tn ts), .val (tn ws), .val (.int (k : Int)), .own (R.map fun i : Nat => .int (i : Int)), .own (T.map fun i : Nat => .int (i : Int)), .non, .non, .non]) (e2 := [.val (tn ts), .val (tn ws), .val (.int (k : Int)), .own ((R.erase g).map fun i : Nat => .int (i : Int)), .own ((T ++ [g]).map fun i : Nat => .int (i : Int)), .val (.list ((g :: r).map fun i : Nat => .int (i : Int))), .non, .non]) (by simp) ?_ (by simp [forgE_cons, forgE, fgS, gt_z, gt_s])
      have lz : ((g :: r).map fun i : Nat => PyData.int (i : Int)).length = (g :: r).length := List.length_map ..
      rw [← lz] at hz
      generalize (g :: r).map (fun i : Nat => PyData.int (i : Int)) = G at *
      refine seq_step (e' := [.val (tn ts), .val (tn ws), .val (.int (k : Int)), .own (R.map fun i : Nat => .int (i : Int)), .own (T.map fun i : Nat => .int (i : Int)), .val (.list G), .non, .non]) ?_ ?_
      · simp [e, hz, compEnd]
      refine seq_step (e' := [.val (tn ts), .val (tn ws), .val (.int (k : Int)), .own (R.map fun i : Nat => .int (i : Int)), .own ((T ++ [g]).map fun i : Nat => .int (i : Int)), .val (.list G), .non, .non]) ?_ ?_
      · simp [ix, hz1, -q2_ixl]
      have rm := rem_of (ft := callF P gl fuel n) (gl := gl) (fuel := fuel) (i := 3) (e := .op2 .ix (.b 5) (.e (.int 0))) (env := [.val (tn ts), .val (tn ws), .val (.int (k : Int)), .own (R.map fun i : Nat => .int (i : Int)), .own ((T ++ [g]).map fun i : Nat => .int (i : Int)), .val (.list G), .non, .non]) (ks := R) (k := g) (by simp) (by simp [ix, -q2_ixl]) gin
      refine seq_step rm ?_
      simp)
  rw [rest_zero, List.take_zero, List.map_nil, List.take_of_length_le (by omega)] at key
  have hz : szOk ts.length = true := sz_of (by omega)
  have tq := q1_tup_nat (smt ts ws ts.length)
  rw [callF_eq (fd := ⟨2, 8, b__law_by_ratio⟩) rfl (by rfl)]
  simp [b__law_by_ratio, r1, hz, key, tq, -q1_tupl]
end K29

/-! part K29N -/
set_option Elab.async false
set_option linter.all false
set_option autoImplicit false
set_option maxRecDepth 100000
set_option maxHeartbeats 4000000
/-! k29: what is late, who is served -/
namespace K29
open PL PySem
variable {fuel n : Nat} {ts ws ds o : List Nat}
theorem late_max (ts ds o : List Nat) : sem1 .max (.list (.int 0 :: (List.range ts.length).map fun i => .int (lt1 ts ds o i))) = some (.v (.int (late ts ds o))) := by
  have := q1_max_ints 0 ((List.range ts.length).map (lt1 ts ds o))
  rw [List.map_cons, List.map_map] at this
  exact this
theorem c_late (ht : Tm ts) (hd : Du ts.length ds) (ho : Ord ts.length o) : callF P gl fuel (n + 5) 23 [.val (tn ts), .val (tn ds), .val (tn o)] = .ok (.v (.int (late ts ds o))) [.val (tn ts), .val (tn ds), .val (tn o)] := by
  have d0 := c_dd (fuel := fuel) (n := n) ht hd
  have d1 := c_demand (P := P) (gl := gl) (fuel := fuel) (n := n + 3) rfl
  have d2 := c_order (fuel := fuel) (n := n + 1) ho ht.l
  have d3 := c_ends (fuel := fuel) (n := n + 3) ht ho
  have zp := zip_nat (xs := ends ts o) (ys := ds) ends_len hd.l
  have hl := ht.l
  have e := comp_map (ft := callF P gl fuel (n + 4)) (gl := gl) (own := [3, 4]) (pt := .two (.nm 3) (.nm 4)) (hc := false) (c := .none) (e := .op2 .sub (.b 3) (.b 4)) (en := [.val (tn ts), .val (tn ds), .val (tn o), .non, .non])
    (fun i : Nat => .tuple [.int (at_ (ends ts o) i : Nat), .int (at_ ds i : Nat)]) (fun i => .int (lt1 ts ds o i)) (List.range ts.length) fun i hi => by
      rw [ends_at (List.mem_range.1 hi)]
      simp [lt1]
  have hz : szOk ts.length = true := sz_of (by omega)
  have hz2 : szOk (1 + ts.length) = true := sz_of (by omega)
  have mx := late_max ts ds o
  rw [callF_eq (fd := ⟨3, 5, b_lateness⟩) rfl (by rfl)]
  simp [b_lateness, d0, d1, d2, d3, zp, e, hz, hz2, mx, compEnd]
theorem c_llate (ht : Tm ts) (hd : Du ts.length ds) (ho : Ord ts.length o) : callF P gl fuel (n + 2) 30 [.val (tn ts), .val (tn ds), .val (tn o)] = .ok (.v (.int (late ts ds o))) [.val (tn ts), .val (tn ds), .val (tn o)] := by
  have d3 := c_lends (fuel := fuel) (n := n) ht ho
  have zp := zip_nat (xs := ends ts o) (ys := ds) ends_len hd.l
  obtain ⟨key, _⟩ := for_fold (ft := callF P gl fuel (n + 1)) (gl := gl) (fuel := fuel) (w := [4, 5]) (pt := .two (.nm 4) (.nm 5)) (body := (.cons (.set false 3 (.op2 .max2 (.b 3) (.e (.op2 .sub (.b 4) (.b 5)))))
  .nil)) (fun s : Int => [.val (tn ts), .val (tn ds), .val (tn o), .val (.int s), .non, .non]) (fun (ys : List Nat) _ => ∀ x ∈ ys, x < ts.length) (fun i : Nat => .tuple [.int (at_ (ends ts o) i : Nat), .int (at_ ds i : Nat)]) (fun s i => max s (lt1 ts ds o i)) (fun y ys s i => by
      refine ⟨fun x hx => i x (List.mem_cons_of_mem _ hx), ?_⟩
      rw [ends_at (i y List.mem_cons_self)]
      have e : (if (en ts o y : Int) - (at_ ds y : Int) > s then (en ts o y : Int) - (at_ ds y : Int) else s) = max s (lt1 ts ds o y) := by
        unfold lt1
        split <;> omega
      simp [-gt_iff_lt, e]) (List.range ts.length) 0 (fun x hx => List.mem_range.1 hx)
  have fe : (List.range ts.length).foldl (fun s i => max s (lt1 ts ds o i)) 0 = late ts ds o := by
    unfold late
    rw [List.foldl_map]
  rw [fe] at key
  rw [callF_eq (fd := ⟨3, 6, b__law_late⟩) rfl (by rfl)]
  simp [b__law_late, d3, zp, key]
theorem c_ll (ht : Tm ts) (hd : Du ts.length ds) : callF P gl fuel (n + 5) 24 [.val (tn ts), .val (tn ds)] = .ok (.v (tn (edd ds))) [.val (tn ts), .val (tn ds)] := by
  have d0 := c_dd (fuel := fuel) (n := n) ht hd
  have hl := ht.l
  have r1 := rng1_nat (m := ts.length) (by omega)
  have hz : szOk ts.length = true := sz_of (by omega)
  have ke := keysE_map (ft := callF P gl fuel (n + 4)) (gl := gl) (b := .tup (.cons (.op2 .ix (.b 1) (.b 2)) (.cons (.var 2) .nil))) (i := 2) (env := [.val (tn ts), .val (tn ds), .non])
    (fun i : Nat => .int (i : Int)) (fun i => ii ((at_ ds i : Int), (i : Int))) (List.range ts.length) (fun x hx => by simp [ix_at (show x < ds.length by rw [hd.l]; exact List.mem_range.1 hx), ii])
  have so1 : sortOk ((List.range ts.length).map fun i => ii ((at_ ds i : Int), (i : Int))) = true := by
    have := sortOk_ii ((List.range ts.length).map fun i => ((at_ ds i : Int), (i : Int)))
    rw [List.map_map] at this
    exact this
  have sk := sortK_byN (fun i => (at_ ds i : Int)) ts.length
  have so2 : byN (fun i => (at_ ds i : Int)) ts.length = edd ds := by unfold edd; rw [hd.l]
  rw [so2] at sk
  have tq := q1_tup_nat (edd ds)
  rw [callF_eq (fd := ⟨2, 3, b_least_lateness⟩) rfl (by rfl)]
  simp [b_least_lateness, d0, r1, ke, so1, sk, hz, tq, -q1_tupl, -List.getD_eq_getElem?_getD]
theorem c_lg (ht : Tm ts) (hd : Du ts.length ds) : callF P gl fuel (n + 5) 25 [.val (tn ts), .val (tn ds)] = .ok (.v (tn (lg ts ds).2)) [.val (tn ts), .val (tn ds)] := by
  have d0 := c_dd (fuel := fuel) (n := n) ht hd
  have hl := ht.l
  have dl := hd.l
  have r1 := rng1_nat (m := ts.length) (by omega)
  have ss := sortSet_tn (ks := ds) (by omega)
  have pr : ∀ b : Int × List Nat, sem2 .ix (.tuple [.int b.1, tn b.2]) (.int 0) = some (.v (.int b.1)) := fun _ => rfl
  have pr1 : ∀ b : Int × List Nat, sem2 .ix (.tuple [.int b.1, tn b.2]) (.int 1) = some (.v (tn b.2)) := fun _ => rfl
  obtain ⟨key, _⟩ := for_fold (ft := callF P gl fuel (n + 4)) (gl := gl) (fuel := fuel) (w := [3, 4, 5]) (pt := .nm 3) (body := (.cons (.set false 4 (.op1 .tuple (.e (.comp [6] (.nm 6) (.r1 (.op1 .len (.b 0))) true (.op2 .le (.e (.op2 .ix (.b 1) (.b 6))) (.b 3)) (.var 6)))))
  (.cons (.set false 5 (.op2 .sub (.e (.op1 .sum (.e (.comp [6] (.nm 6) (.seq (.b 4)) false .none (.op2 .ix (.b 0) (.b 6)))))) (.b 3)))
  (.cons (.ifS (.op2 .gt (.b 5) (.e (.op2 .ix (.b 2) (.e (.int 0))))) (.cons (.set false 2 (.tup (.cons (.var 5) (.cons (.var 4) .nil))))
  .nil) .nil)
  .nil)))) (fun b : Int × List Nat => [.val (tn ts), .val (tn ds), .val (.tuple [.int b.1, tn b.2]), .non, .non, .non, .non]) (fun _ _ => True) (fun i : Nat => .int (i : Int)) (stp ts ds) (fun y ys s _ => by
      refine ⟨trivial, ?_⟩
      have e1 := comp_sim (ft := callF P gl fuel (n + 4)) (gl := gl) (own := [6]) (pt := .nm 6) (hc := true) (c := .op2 .le (.e (.op2 .ix (.b 1) (.b 6))) (.b 3)) (e := .var 6) (en := [.val (tn ts), .val (tn ds), .val (.tuple [.int s.1, tn s.2]), .val (.int (y : Int)), .non, .non, .non])
        (fun i : Nat => .int (i : Int)) (fun i => decide (at_ ds i ≤ y)) (fun i : Nat => .int (i : Int)) (List.range ts.length) fun x hx => by
          have ix := ix_at (show x < ds.length by rw [dl]; exact List.mem_range.1 hx)
          by_cases c : at_ ds x ≤ y
          · simp [ix, c]
          · simp [ix, c]
      have g0 : (List.range ts.length).filter (fun i => decide (at_ ds i ≤ y)) = gr ts ds y := rfl
      rw [g0] at e1
      have gl5 : (gr ts ds y).length ≤ ts.length := mem_chs_len (gr_chs y)
      have hz : szOk (gr ts ds y).length = true := sz_of (by omega)
      have gb := chs_lt (gr_chs (ts := ts) (ds := ds) y)
      have tq := q1_tup_nat (gr ts ds y)
      have st : stp ts ds s y = if s.1 < (sm ts (gr ts ds y) : Int) - (y : Int) then ((sm ts (gr ts ds y) : Int) - (y : Int), gr ts ds y) else s := rfl
      rw [st]
      have e2 := comp_map (ft := callF P gl fuel (n + 4)) (gl := gl) (own := [6]) (pt := .nm 6) (hc := false) (c := .none) (e := .op2 .ix (.b 0) (.b 6)) (en := [.val (tn ts), .val (tn ds), .val (.tuple [.int s.1, tn s.2]), .val (.int (y : Int)), .val (tn (gr ts ds y)), .non, .non])
        (fun i : Nat => .int (i : Int)) (fun i => .int (at_ ts i : Nat)) (gr ts ds y) fun x hx => by simp [ix_at (gb x hx)]
      have si := intsOf_nat (at_ ts) (gr ts ds y)
      have sn := sum_nat (at_ ts) (gr ts ds y)
      have sn2 : ((gr ts ds y).map (at_ ts)).sum = sm ts (gr ts ds y) := rfl
      rw [sn2] at sn
      have sq := seqOf_tn (gr ts ds y)
      have p0 := pr s
      generalize gr ts ds y = G at *
      have lB : (G.map fun i : Nat => PyData.int (i : Int)).length = G.length := List.length_map ..
      generalize hB : G.map (fun i : Nat => PyData.int (i : Int)) = B at *
      by_cases c : s.1 < (sm ts G : Int) - (y : Int)
      · simp [r1, e1, lB, hz, tq, sq, e2, si, sn, p0, c, compEnd, -q1_tupl, -q2_ixt]
      · simp [r1, e1, lB, hz, tq, sq, e2, si, sn, p0, c, compEnd, -q1_tupl, -q2_ixt]) (su ds) (0, []) trivial
  have k0 : (PyData.tuple [.int (0, ([] : List Nat)).1, tn (0, ([] : List Nat)).2]) = .tuple [.int 0, .tuple []] := rfl
  have lf : (su ds).foldl (stp ts ds) (0, []) = lg ts ds := rfl
  rw [lf] at key
  simp only at key
  have t0 : tn [] = .tuple [] := rfl
  rw [t0] at key
  have p1 := pr1 (lg ts ds)
  rw [callF_eq (fd := ⟨2, 7, b_late_group⟩) rfl (by rfl)]
  simp [b_late_group, d0, ss, key, p1, -q2_ixt]
theorem md_max {g : List Nat} (h : g ≠ []) : sem1 .max (.list (g.map fun x => .int (at_ ds x : Nat))) = some (.v (.int (md ds g : Nat))) := by
  obtain ⟨h1, h2⟩ := md_spec (ds := ds) h
  have := max_nat h1 h2
  rw [List.map_map] at this
  exact this
theorem c_lshown (ht : Tm ts) (hd : Du ts.length ds) {g : List Nat} (hg : g ∈ chs ts.length) : callF P gl fuel (n + 1) 32 [.val (tn ts), .val (tn ds), .val (tn g)] = .ok (.v (.int (shw ts ds g))) [.val (tn ts), .val (tn ds), .val (tn g)] := by
  have hl := ht.l
  have dl := hd.l
  have gl5 : g.length ≤ ts.length := mem_chs_len hg
  have hz : szOk g.length = true := sz_of (by omega)
  have gb := chs_lt hg
  have e1 := comp_map (ft := callF P gl fuel n) (gl := gl) (own := [3]) (pt := .nm 3) (hc := false) (c := .none) (e := .op2 .ix (.b 0) (.b 3)) (en := [.val (tn ts), .val (tn ds), .val (tn g), .non])
    (fun i : Nat => .int (i : Int)) (fun i => .int (at_ ts i : Nat)) g fun x hx => by simp [ix_at (gb x hx)]
  have e2 := comp_map (ft := callF P gl fuel n) (gl := gl) (own := [3]) (pt := .nm 3) (hc := false) (c := .none) (e := .op2 .ix (.b 1) (.b 3)) (en := [.val (tn ts), .val (tn ds), .val (tn g), .non])
    (fun i : Nat => .int (i : Int)) (fun i => .int (at_ ds i : Nat)) g fun x hx => by simp [ix_at (show x < ds.length by rw [dl]; exact gb x hx)]
  have si := intsOf_nat (at_ ts) g
  have sn := sum_nat (at_ ts) g
  have sn2 : (g.map (at_ ts)).sum = sm ts g := rfl
  rw [sn2] at sn
  have sq := seqOf_tn g
  have ln : sem1 .len (tn g) = some (.v (.int (g.length : Nat))) := by simp [tn, sem1]
  rw [callF_eq (fd := ⟨3, 4, b__law_shown⟩) rfl (by rfl)]
  by_cases c : g = []
  · have e : shw ts ds g = 0 := if_pos c
    have l0 : g.length = 0 := by rw [c]; rfl
    simp [b__law_shown, e, l0, ln]
  · have e : shw ts ds g = if (sm ts g : Int) - (md ds g : Int) > 0 then (sm ts g : Int) - (md ds g : Int) else 0 := if_neg c
    have l0 : ¬ g.length = 0 := fun h => c (List.length_eq_zero_iff.1 h)
    have mx := md_max (ds := ds) c
    simp [b__law_shown, e, c, l0, ln, sq, e1, e2, si, sn, mx, hz, compEnd]
theorem c_shown (ht : Tm ts) (hd : Du ts.length ds) {g : List Nat} (hg : g ∈ chs ts.length) : callF P gl fuel (n + 5) 26 [.val (tn ts), .val (tn ds), .val (tn g)] = .ok (.v (.int (shw ts ds g))) [.val (tn ts), .val (tn ds), .val (tn g)] := by
  have hl := ht.l
  have dl := hd.l
  have gl5 : g.length ≤ ts.length := mem_chs_len hg
  have d0 := c_dd (fuel := fuel) (n := n) ht hd
  have d1 := c_are_rising (P := P) (gl := gl) (fuel := fuel) (n := n + 1) rfl rfl rfl rfl (tn g) 0 (ts.length : Int) ((ts.length : Int) - 1) (fun xs hx => by cases hx; simp; omega)
  rw [areRis_chs hg] at d1
  have hz : szOk g.length = true := sz_of (by omega)
  have gb := chs_lt hg
  have e1 := comp_map (ft := callF P gl fuel (n + 4)) (gl := gl) (own := [3]) (pt := .nm 3) (hc := false) (c := .none) (e := .op2 .ix (.b 0) (.b 3)) (en := [.val (tn ts), .val (tn ds), .val (tn g), .non])
    (fun i : Nat => .int (i : Int)) (fun i => .int (at_ ts i : Nat)) g fun x hx => by simp [ix_at (gb x hx)]
  have e2 := comp_map (ft := callF P gl fuel (n + 4)) (gl := gl) (own := [3]) (pt := .nm 3) (hc := false) (c := .none) (e := .op2 .ix (.b 1) (.b 3)) (en := [.val (tn ts), .val (tn ds), .val (tn g), .non])
    (fun i : Nat => .int (i : Int)) (fun i => .int (at_ ds i : Nat)) g fun x hx => by simp [ix_at (show x < ds.length by rw [dl]; exact gb x hx)]
  have si := intsOf_nat (at_ ts) g
  have sn := sum_nat (at_ ts) g
  have sn2 : (g.map (at_ ts)).sum = sm ts g := rfl
  rw [sn2] at sn
  have sq := seqOf_tn g
  have ln : sem1 .len (tn g) = some (.v (.int (g.length : Nat))) := by simp [tn, sem1]
  rw [callF_eq (fd := ⟨3, 4, b_shown_lateness⟩) rfl (by rfl)]
  by_cases c : g = []
  · have e : shw ts ds g = 0 := if_pos c
    have l0 : g.length = 0 := by rw [c]; rfl
    simp [b_shown_lateness, d0, d1, e, l0, ln]
  · have e : shw ts ds g = if (sm ts g : Int) - (md ds g : Int) > 0 then (sm ts g : Int) - (md ds g : Int) else 0 := if_neg c
    have l0 : ¬ g.length = 0 := fun h => c (List.length_eq_zero_iff.1 h)
    have mx := md_max (ds := ds) c
    simp [b_shown_lateness, d0, d1, e, c, l0, ln, sq, e1, e2, si, sn, mx, hz, compEnd]
theorem c_unshown (ht : Tm ts) (hd : Du ts.length ds) {d : PyData} (h1 : ∀ xs, d = .tuple xs → xs.length ≤ 1000) (h2 : areRis 0 (ts.length : Int) ((ts.length : Int) - 1) d = false) : callF P gl fuel (n + 5) 26 [.val (tn ts), .val (tn ds), .val d] = .ok (.v .none) [.val (tn ts), .val (tn ds), .val d] := by
  have d0 := c_dd (fuel := fuel) (n := n) ht hd
  have d1 := c_are_rising (P := P) (gl := gl) (fuel := fuel) (n := n + 1) rfl rfl rfl rfl d 0 (ts.length : Int) ((ts.length : Int) - 1) h1
  rw [h2] at d1
  rw [callF_eq (fd := ⟨3, 4, b_shown_lateness⟩) rfl (by rfl)]
  simp [b_shown_lateness, d0, d1]
/-- the served, one after the other -/
def sstep (ts : List Nat) (clock : Nat) (s : List Nat × Nat) (x : Nat) : List Nat × Nat := if s.2 + at_ ts x ≤ clock then (s.1 ++ [x], s.2 + at_ ts x) else s
theorem sstep_fold (ts : List Nat) (clock : Nat) : ∀ (xs : List Nat) (s : List Nat × Nat), (xs.foldl (sstep ts clock) s).1 = s.1 ++ srv ts clock s.2 xs
  | [], s => by simp [srv]
  | x :: xs, s => by
    rw [List.foldl_cons, sstep_fold ts clock xs]
    unfold sstep
    rw [srv]
    split
    · simp
    · rfl
theorem c_served (ht : Tm ts) {clock : Nat} (hc : clock ≤ 7000) : callF P gl fuel (n + 4) 27 [.val (tn ts), .val (.int (clock : Int))] = .ok (.v (tn (srvd ts clock))) [.val (tn ts), .val (.int (clock : Int))] := by
  have d0 := c_dt (fuel := fuel) (n := n) ht
  have d1 := c_demand (P := P) (gl := gl) (fuel := fuel) (n := n + 2) rfl
  have d2 := c_are_in (P := P) (gl := gl) (fuel := fuel) (n := n + 1) rfl rfl rfl (tn [clock]) 1 1 0 7000 (fun xs hx => by cases hx; simp)
  rw [areIn_tn _ _ _ _ _ (by simp) (by simp) (fun x hx => by rw [List.mem_singleton.1 hx]; omega)] at d2
  have t1 : tn [clock] = .tuple [.int (clock : Int)] := rfl
  rw [t1] at d2
  have hl := ht.l
  have r1 := rng1_nat (m := ts.length) (by omega)
  have hz : szOk ts.length = true := sz_of (by omega)
  have ke := keysE_map (ft := callF P gl fuel (n + 3)) (gl := gl) (b := .tup (.cons (.op2 .ix (.b 0) (.b 5)) (.cons (.var 5) .nil))) (i := 5) (env := [.val (tn ts), .val (.int (clock : Int)), .non, .non, .val (.int 0), .non])
    (fun i : Nat => .int (i : Int)) (fun i => ii ((at_ ts i : Int), (i : Int))) (List.range ts.length) (fun x hx => by simp [ix_at (List.mem_range.1 hx), ii])
  have so1 : sortOk ((List.range ts.length).map fun i => ii ((at_ ts i : Int), (i : Int))) = true := by
    have := sortOk_ii ((List.range ts.length).map fun i => ((at_ ts i : Int), (i : Int)))
    rw [List.map_map] at this
    exact this
  have sk := sortK_byN (fun i => (at_ ts i : Int)) ts.length
  have so2 : byN (fun i => (at_ ts i : Int)) ts.length = spt ts := rfl
  rw [so2] at sk
  have m1 : mulOk 1000 7 = true := by decide
  obtain ⟨key, _⟩ := for_fold (ft := callF P gl fuel (n + 3)) (gl := gl) (fuel := fuel) (w := [2]) (pt := .nm 2) (body := (.cons (.ifS (.op2 .le (.e (.op2 .add (.b 4) (.e (.op2 .ix (.b 0) (.b 2))))) (.b 1)) (.cons (.app 3 (.var 2))
  (.cons (.aug 4 (.op2 .ix (.b 0) (.b 2)))
  .nil)) .nil)
  .nil)) (fun s : List Nat × Nat => [.val (tn ts), .val (.int (clock : Int)), .non, .own (s.1.map fun i : Nat => .int (i : Int)), .val (.int (s.2 : Nat)), .non]) (fun ys s => (∀ x ∈ ys, x < ts.length) ∧ s.1.length + ys.length ≤ 7) (fun i : Nat => .int (i : Int)) (sstep ts clock) (fun y ys s i => by
      obtain ⟨i1, i2⟩ := i
      simp only [List.length_cons] at i2
      have ix := ix_at (i1 y List.mem_cons_self)
      have hz : szOk (s.1.length + 1) = true := sz_of (by omega)
      unfold sstep
      by_cases c : s.2 + at_ ts y ≤ clock
      · rw [if_pos c]
        refine ⟨⟨fun x hx => i1 x (List.mem_cons_of_mem _ hx), by simp; omega⟩, ?_⟩
        have c' : (s.2 : Int) + (at_ ts y : Int) ≤ (clock : Int) := by omega
        simp [ix, c', hz]
      · rw [if_neg c]
        refine ⟨⟨fun x hx => i1 x (List.mem_cons_of_mem _ hx), by omega⟩, ?_⟩
        have c' : ¬ (s.2 : Int) + (at_ ts y : Int) ≤ (clock : Int) := by omega
        simp [ix, c', hz]) (spt ts) ([], 0) ⟨fun x hx => spt_ord.mem.1 hx, by rw [spt_ord.len]; simpa using hl⟩
  have fe := sstep_fold ts clock (spt ts) ([], 0)
  have fe2 : ((spt ts).foldl (sstep ts clock) ([], 0)).1 = got ts clock := fe
  rw [fe2] at key
  simp only [List.map_nil, Int.cast_ofNat_Int] at key
  have so := srvd_sorted (ts := ts) clock
  have tq := q1_tup_nat (srvd ts clock)
  rw [callF_eq (fd := ⟨2, 6, b_most_served_by⟩) rfl (by rfl)]
  simp [b_most_served_by, d0, d1, d2, gl0, gl1, m1, r1, ke, so1, sk, hz, key, so, tq, -q1_tupl, -List.getD_eq_getElem?_getD]
end K29

/-! part K29Q -/
set_option Elab.async false
set_option linter.all false
set_option autoImplicit false
set_option maxRecDepth 1000000
set_option maxHeartbeats 4000000
/-! k29: the whole turn -/
namespace K29
open PL PySem
variable {fuel n : Nat} {ts ws ds o : List Nat}
def bTurn : Ss := match b_law with
  | .cons (.forS _ _ b _) _ => b
  | _ => .nil
abbrev EV (S sp : PyData) (told : Slot) (d : Dc) (t w u orders order least group clock : Slot) (m z : Nat) (quick due : Slot) : En :=
  [.val S, .val sp, told, .own (dc d), t, w, u, orders, order, least, group, .non, clock, .non, .val (.int (m : Int)), .val (.int (z : Int)), quick, due, .non, .non, .non, .non]
theorem rolls2_ok {ft : FT} {gl : List PyData} {own : List Nat} {pt : Pat} {e : E} (st : Dc → En) (p : Nat → Prop) {B : Nat}
    (h : ∀ (y : Nat) (d : Dc), d.c < B → ∃ (v : Nat) (d2 : Dc), p v ∧ d2.c ≤ d.c + 2 ∧ compS ft gl own pt false .none e (.int (y : Nat)) (st d) = .ok (some (.int (v : Nat))) (st d2)) (m : Nat) (d : Dc) (hd : d.c + 2 * m ≤ B) :
    ∃ (ws : List Nat) (d2 : Dc), ws.length = m ∧ (∀ x ∈ ws, p x) ∧ d2.c ≤ d.c + 2 * m ∧ compE ft gl own pt false .none e ((List.range m).map fun i : Nat => .int (i : Int)) (st d) = .ok (ws.map fun i : Nat => .int (i : Int)) (st d2) := by
  obtain ⟨ws, d1, ⟨i1, i2, i3⟩, e1⟩ := comp_rel (ft := ft) (gl := gl) (own := own) (pt := pt) (hc := false) (c := .none) (e := e)
    st (fun (ys zs : List Nat) (e : Dc) => e.c + 2 * ys.length ≤ d.c + 2 * m ∧ zs.length + ys.length = m ∧ ∀ x ∈ zs, p x) (fun i : Nat => .int (i : Int)) (fun i : Nat => .int (i : Int)) (fun y ys zs e i => by
      obtain ⟨i1, i2, i3⟩ := i
      simp only [List.length_cons] at i1 i2
      obtain ⟨v, d2, l2, b2, r2⟩ := h y e (by omega)
      refine .inl ⟨v, d2, ⟨by omega, by simp; omega, fun x hx => ?_⟩, r2⟩
      rcases List.mem_append.1 hx with hx | hx
      · exact i3 x hx
      · rw [List.mem_singleton.1 hx]
        exact l2) (List.range m) [] d ⟨by simp, by simp, by simp⟩
  simp only [List.nil_append, List.length_nil, Nat.mul_zero, Nat.add_zero] at i1 i2 i3
  exact ⟨ws, d1, i2, i3, i1, e1⟩
theorem wide_ok (d : Dc) (hd : d.c < 2 ^ 50) : ∃ (w : Nat) (d' : Dc), 1 ≤ w ∧ w ≤ 1000 ∧ d'.c ≤ d.c + 1 ∧ callF P gl fuel (n + 2) 9 [.io (dc d), .val (.list [.int 3, .int 10, .int 1000])] = .ok (.v (.int (w : Nat))) [.io (dc d'), .val (.list [.int 3, .int 10, .int 1000])] := by
  obtain ⟨k, hk, d', b', r'⟩ := pick_ok (P := P) (gl := gl) (fuel := fuel) (n := n) rfl rfl d [.int 3, .int 10, .int 1000] (by simp) (by simp) (by omega)
  match k, hk with
  | 0, _ => exact ⟨3, d', by omega, by omega, b', r'⟩
  | 1, _ => exact ⟨10, d', by omega, by omega, b', r'⟩
  | 2, _ => exact ⟨1000, d', by omega, by omega, b', r'⟩
theorem heavy_ok (d : Dc) (hd : d.c < 2 ^ 50) : ∃ (w : Nat) (d' : Dc), 1 ≤ w ∧ w ≤ 100 ∧ d'.c ≤ d.c + 1 ∧ callF P gl fuel (n + 2) 9 [.io (dc d), .val (.list [.int 3, .int 100])] = .ok (.v (.int (w : Nat))) [.io (dc d'), .val (.list [.int 3, .int 100])] := by
  obtain ⟨k, hk, d', b', r'⟩ := pick_ok (P := P) (gl := gl) (fuel := fuel) (n := n) rfl rfl d [.int 3, .int 100] (by simp) (by simp) (by omega)
  match k, hk with
  | 0, _ => exact ⟨3, d', by omega, by omega, b', r'⟩
  | 1, _ => exact ⟨100, d', by omega, by omega, b', r'⟩
theorem sorted_byN (f : Nat → Int) (m : Nat) : sem1 .sorted (.list ((List.range m).map fun i => ii (f i, (i : Int)))) = some (.l ((byN f m).map fun i => ii (f i, (i : Int)))) := by
  have so := sortOk_ii ((List.range m).map fun i => (f i, (i : Int)))
  rw [List.map_map] at so
  have so : sortOk ((List.range m).map fun i => ii (f i, (i : Int))) = true := so
  rw [q1_sorl, if_pos so]
  have e : sortD ((List.range m).map fun i => ii (f i, (i : Int))) = (byN f m).map fun i => ii (f i, (i : Int)) := by
    unfold sortD byN
    refine (List.map_mergeSort (r := leN f) (f := fun i : Nat => ii (f i, (i : Int))) fun a _ b _ => ?_).symm
    show leN f a b = !W.dataLt (ii (f b, (b : Int))) (ii (f a, (a : Int)))
    rw [dataLt_ii']
    simp only [leN]
    by_cases h : f b < f a ∨ (f b = f a ∧ (b : Int) < (a : Int))
    · rw [decide_eq_true h, decide_eq_false (by omega)]
      rfl
    · rw [decide_eq_false h, decide_eq_true (by omega)]
      rfl
  rw [e]
theorem sumI (ts : List Nat) : sem1 .sum (tn ts) = some (.v (.int (ts.sum : Nat))) := by
  have a := intsOf_nat (fun i : Nat => i) ts
  have b := sum_nat (fun i : Nat => i) ts
  rw [List.map_id'] at b
  show (intsOf (ts.map fun i : Nat => .int (i : Int))).map _ = _
  rw [a, Option.map_some, b]
theorem ends_cnt (clock : Nat) : ((ends ts o).filter fun e => decide (e ≤ clock)).length = cnt ts o clock := by
  unfold ends cnt
  rw [List.filter_map, List.length_map]
  rfl
/-- the served in the law -/
def dstep (ts : List Nat) (clock : Nat) (l : List Nat) (x : Nat) : List Nat := if sm ts l + at_ ts x ≤ clock then l ++ [x] else l
theorem dstep_fold (ts : List Nat) (clock : Nat) : ∀ (xs l : List Nat), xs.foldl (dstep ts clock) l = l ++ srv ts clock (sm ts l) xs
  | [], l => by simp [srv]
  | x :: xs, l => by
    rw [List.foldl_cons, dstep_fold ts clock xs, srv]
    unfold dstep
    split
    · rw [sm_app, show sm ts [x] = at_ ts x by simp [sm], List.append_assoc]
      rfl
    · rfl
theorem turn (hf : 20000 ≤ fuel) (ns : List Int) (k : Nat) (hk : k ≤ 6) :
    ∃ e2, exSs (callF P gl fuel (n + 7)) gl fuel bTurn [.val (.list (ns.map .int)), .val (.int (k : Nat)), .non, .non, .non, .non, .non, .non, .non, .non, .non, .non, .non, .non, .non, .non, .non, .non, .non, .non, .non, .non] = .nx e2 ∧ forgE e2 [1, 2, 3, 4, 5, 6, 7, 8, 9, 10, 11, 12, 13, 14, 15, 16, 17, 18, 19] = [.val (.list (ns.map .int)), .non, .non, .non, .non, .non, .non, .non, .non, .non, .non, .non, .non, .non, .non, .non, .non, .non, .non, .non, .non, .non] := by
  generalize hS : PyData.list (ns.map .int) = S
  generalize hsp : PyData.int (k : Nat) = sp
  obtain ⟨d, hd, hdice⟩ := c_dice (P := P) (gl := gl) (fuel := fuel) (n := n + 6) rfl ns k (by omega)
  rw [hS, hsp] at hdice
  obtain ⟨m, d1, l1, b1, r1⟩ := roll_ok (P := P) (gl := gl) (fuel := fuel) (n := n + 6) rfl d 6 (by omega) (by omega) (by omega)
  obtain ⟨z, d2, z1, z2, b2, r2⟩ := wide_ok (fuel := fuel) (n := n + 5) d1 (by omega)
  have gm := rng1_nat (m := m) (by omega)
  have zm : szOk m = true := sz_of (by omega)
  obtain ⟨ts, d3, tl, tb, b3, r3⟩ := rolls2_ok (ft := callF P gl fuel (n + 7)) (gl := gl) (own := [19]) (pt := .nm 19) (e := .op2 .add (.e (.int 1)) (.e (.callIo 8 3 (.cons (.var 15) .nil)))) (fun d => EV S sp .non d .non .non .non .non .non .non .non .non m z .non .non) (fun v => 1 ≤ v ∧ v ≤ 1000) (B := 2 ^ 50) (fun y d hd => by
    obtain ⟨v, d2, l2, b2, r2⟩ := roll_ok (P := P) (gl := gl) (fuel := fuel) (n := n + 6) rfl d (z : Int) (by omega) (by omega) (by omega)
    have e : (1 : Int) + (v : Int) = ((1 + v : Nat) : Int) := by omega
    exact ⟨1 + v, d2, by omega, by omega, by simp [r2, e, -Int.natCast_add]⟩) m d2 (by omega)
  obtain ⟨ws, d4, wl, wb, b4, r4⟩ := rolls2_ok (ft := callF P gl fuel (n + 7)) (gl := gl) (own := [19]) (pt := .nm 19) (e := .op2 .add (.e (.int 1)) (.e (.callIo 8 3 (.cons (.callIo 9 3 (.cons (.lst (.cons (.int 3) (.cons (.int 100) .nil))) .nil)) .nil)))) (fun d => EV S sp .non d (.val (tn ts)) .non .non .non .non .non .non .non m z .non .non) (fun v => 1 ≤ v ∧ v ≤ 100) (B := 2 ^ 40) (fun y d hd => by
    obtain ⟨z, d2, z1, z2, b2, r2⟩ := heavy_ok (fuel := fuel) (n := n + 5) d (by omega)
    obtain ⟨v, d3, l3, b3, r3⟩ := roll_ok (P := P) (gl := gl) (fuel := fuel) (n := n + 6) rfl d2 (z : Int) (by omega) (by omega) (by omega)
    have e : (1 : Int) + (v : Int) = ((1 + v : Nat) : Int) := by omega
    exact ⟨1 + v, d3, by omega, by omega, by simp [r2, r3, e, -Int.natCast_add]⟩) m d3 (by omega)
  obtain ⟨ds, d5, dl, db, b5, r5⟩ := rolls2_ok (ft := callF P gl fuel (n + 7)) (gl := gl) (own := [19]) (pt := .nm 19) (e := .callIo 8 3 (.cons (.op2 .add (.e (.op2 .mul (.e (.int 2)) (.b 15))) (.e (.int 1))) .nil)) (fun d => EV S sp .non d (.val (tn ts)) (.val (tn ws)) .non .non .non .non .non .non m z .non .non) (fun v => v ≤ 7000) (B := 2 ^ 40) (fun y d hd => by
    obtain ⟨v, d2, l2, b2, r2⟩ := roll_ok (P := P) (gl := gl) (fuel := fuel) (n := n + 6) rfl d (2 * (z : Int) + 1) (by omega) (by omega) (by omega)
    have mo : mulOk 2 (z : Int) = true := mulOk_l (by decide)
    exact ⟨v, d2, by omega, by omega, by simp [mo, r2]⟩) m d4 (by omega)
  have ht : Tm ts := ⟨by omega, tb⟩
  have hw : Wg ts.length ws := ⟨by omega, wb⟩
  have hu : Du ts.length ds := ⟨by omega, db⟩
  have c13 := c_orders2 (P := P) (gl := gl) (fuel := fuel) (n := n + 6) rfl (List.range m) (by simp; omega)
  rw [List.length_range] at c13
  have o0 : (ordT (List.range m) m).map tn = (ords m).map tn := rfl
  rw [o0] at c13
  have ol : (ords m).length ≤ 46656 := by
    have a := ordT_len (List.range m) m
    have b := ord_bnd (ts := List.range m) (t := m) (by simp; omega) (by simp)
    exact Nat.le_trans a b
  have zo : szOk (ords m).length = true := sz_of (by omega)
  obtain ⟨q, hq, d6, b6, r6⟩ := pick_ok (P := P) (gl := gl) (fuel := fuel) (n := n + 5) rfl rfl d5 ((ords m).map tn) (by simpa using ords_ne) (by rw [List.length_map]; omega) (by omega)
  obtain ⟨o, ho, e6⟩ : ∃ o, Ord m o ∧ ((ords m).map tn)[q] = tn o := ⟨(ords m)[q]'(by simpa using hq), mem_ords.1 (List.getElem_mem _), by simp⟩
  rw [e6] at r6
  have oo : ∀ x ∈ ords m, Ord ts.length x := fun x hx => by rw [tl]; exact mem_ords.1 hx
  have ho' : Ord ts.length o := by rw [tl]; exact ho
  have a16 := c_endsof (fuel := fuel) (n := n + 3) ht ho'
  have a28 := c_lends (fuel := fuel) (n := n + 6) ht ho'
  have a19 := c_wt (fuel := fuel) (n := n + 2) ht hw ho'
  have a29 := c_lwt (fuel := fuel) (n := n + 5) ht hw ho'
  have a23 := c_late (fuel := fuel) (n := n + 2) ht hu ho'
  have a30 := c_llate (fuel := fuel) (n := n + 5) ht hu ho'
  -- the rule of ratios
  have so := smt_ord ts ws ts.length
  have a21 := c_lw (fuel := fuel) (n := n + 2) ht hw
  have a31 := c_ratio (fuel := fuel) (n := n + 6) ht hw
  have a29s := c_lwt (fuel := fuel) (n := n + 5) ht hw so
  have e12 := comp_map (ft := callF P gl fuel (n + 7)) (gl := gl) (own := [11]) (pt := .nm 11) (hc := false) (c := .none) (e := .call 29 (.cons (.var 4) (.cons (.var 5) (.cons (.var 11) .nil)))) (en := EV S sp (.val (tn (smt ts ws ts.length))) d6 (.val (tn ts)) (.val (tn ws)) (.val (tn ds)) (.val (.list ((ords m).map tn))) (.val (tn o)) .non .non .non m z .non .non)
    tn (fun o => .int (wt ts ws o : Nat)) (ords m) fun x hx => by
      have t := c_lwt (fuel := fuel) (n := n + 5) ht hw (oo x hx)
      simp [t]
  have m12 := min_nat (xs := (ords m).map (wt ts ws)) (e := wt ts ws (smt ts ws ts.length)) (List.mem_map_of_mem (mem_ords.2 (by rw [← tl]; exact so))) (fun y hy => by
    obtain ⟨x, hx, rfl⟩ := List.mem_map.1 hy
    exact smith_le ht.pos hw.pos (oo x hx))
  rw [List.map_map] at m12
  have m12 : sem1 .min (.list ((ords m).map fun o => PyData.int (wt ts ws o : Nat))) = some (.v (.int (wt ts ws (smt ts ws ts.length) : Nat))) := m12
  -- the dues
  have eo : Ord ts.length (edd ds) := edd_ord hu.l
  have a24 := c_ll (fuel := fuel) (n := n + 2) ht hu
  have a30e := c_llate (fuel := fuel) (n := n + 5) ht hu eo
  have e15 := comp_map (ft := callF P gl fuel (n + 7)) (gl := gl) (own := [11]) (pt := .nm 11) (hc := false) (c := .none) (e := .call 30 (.cons (.var 4) (.cons (.var 6) (.cons (.var 11) .nil)))) (en := EV S sp (.val (tn (edd ds))) d6 (.val (tn ts)) (.val (tn ws)) (.val (tn ds)) (.val (.list ((ords m).map tn))) (.val (tn o)) (.val (.int (wt ts ws (smt ts ws ts.length) : Nat))) .non .non m z .non .non)
    tn (fun o => .int (late ts ds o)) (ords m) fun x hx => by
      have t := c_llate (fuel := fuel) (n := n + 5) ht hu (oo x hx)
      simp [t]
  have m15 := min_at (xs := (ords m).map (late ts ds)) (e := late ts ds (edd ds)) (List.mem_map_of_mem (mem_ords.2 (by rw [← tl]; exact eo))) (fun y hy => by
    obtain ⟨x, hx, rfl⟩ := List.mem_map.1 hy
    exact edd_le hu.l (oo x hx))
  rw [List.map_map] at m15
  have m15 : sem1 .min (.list ((ords m).map fun o => PyData.int (late ts ds o))) = some (.v (.int (late ts ds (edd ds)))) := m15
  have en16 := enumD_nat ds
  rw [dl] at en16
  have e16 := comp_map (ft := callF P gl fuel (n + 7)) (gl := gl) (own := [19, 17]) (pt := .two (.nm 19) (.nm 17)) (hc := false) (c := .none) (e := .tup (.cons (.var 17) (.cons (.var 19) .nil))) (en := EV S sp (.val (tn (edd ds))) d6 (.val (tn ts)) (.val (tn ws)) (.val (tn ds)) (.val (.list ((ords m).map tn))) (.val (tn o)) (.val (.int (late ts ds (edd ds)))) .non .non m z .non .non)
    (fun k : Nat => .tuple [.int (k : Int), .int (ds.getD k 0 : Nat)]) (fun i => ii ((at_ ds i : Int), (i : Int))) (List.range m) fun x hx => by
      have a : ds.getD x 0 = at_ ds x := rfl
      rw [a]
      simp [ii]
  have s16 := sorted_byN (fun i => (at_ ds i : Int)) m
  have s16e : byN (fun i => (at_ ds i : Int)) m = edd ds := by unfold edd; rw [dl]
  rw [s16e] at s16
  have e16b := comp_map (ft := callF P gl fuel (n + 7)) (gl := gl) (own := [20]) (pt := .nm 20) (hc := false) (c := .none) (e := .op2 .ix (.b 20) (.e (.int 1))) (en := EV S sp (.val (tn (edd ds))) d6 (.val (tn ts)) (.val (tn ws)) (.val (tn ds)) (.val (.list ((ords m).map tn))) (.val (tn o)) (.val (.int (late ts ds (edd ds)))) .non .non m z .non .non)
    (fun i : Nat => ii ((at_ ds i : Int), (i : Int))) (fun i : Nat => .int (i : Int)) (edd ds) fun x hx => by
      have a : sem2 .ix (ii ((at_ ds x : Int), (x : Int))) (.int 1) = some (.v (.int (x : Int))) := rfl
      simp [a]
  have el : (edd ds).length = m := by rw [eo.len, tl]
  -- the group
  have a25 := c_lg (fuel := fuel) (n := n + 2) ht hu
  have c11 := c_choices (P := P) (gl := gl) (fuel := fuel) (n := n + 6) rfl m (by omega)
  have gm1 : (lg ts ds).2 ∈ chs m := by rw [← tl]; exact lg_mem
  have an18 := any_tn (chs m) (lg ts ds).2
  rw [decide_eq_true gm1] at an18
  have fl18 := flat_tn (lg ts ds).2
  have a32 := c_lshown (fuel := fuel) (n := n + 6) ht hu (g := (lg ts ds).2) (by rw [tl]; exact gm1)
  rw [lg_is hu.l] at a32
  have e19 := for_skip (ft := callF P gl fuel (n + 7)) (gl := gl) (fuel := fuel) (w := [11]) (pt := .nm 11) (body := (.cons (.ifS (.orE (.op2 .ne (.e (.callK 26 [2, 1, 0] (.cons (.var 11) (.cons (.var 6) (.cons (.var 4) .nil))))) (.e (.call 32 (.cons (.var 4) (.cons (.var 6) (.cons (.var 11) .nil)))))) (.op2 .gt (.e (.call 32 (.cons (.var 4) (.cons (.var 6) (.cons (.var 11) .nil))))) (.b 9))) (.cons (.ret (.bool false))
  .nil) .nil)
  .nil)) (EV S sp (.val (tn (edd ds))) d6 (.val (tn ts)) (.val (tn ws)) (.val (tn ds)) (.val (.list ((ords m).map tn))) (.val (tn o)) (.val (.int (late ts ds (edd ds)))) (.val (tn (lg ts ds).2)) .non m z .non .non) tn (chs m) fun g hg => by
      have hg' : g ∈ chs ts.length := by rw [tl]; exact hg
      have t1 := c_shown (fuel := fuel) (n := n + 2) ht hu hg'
      have t2 := c_lshown (fuel := fuel) (n := n + 6) ht hu hg'
      have le := shw_le (ts := ts) (ds := ds) eo (chs_nd hg') (chs_lt hg')
      have le' : ¬ late ts ds (edd ds) < shw ts ds g := by omega
      simp [t1, t2, le']
  -- the clock
  have su := sumI ts
  obtain ⟨T, hT⟩ : ∃ T : Int, T = if (ts.sum : Int) + 3 < 7001 then (ts.sum : Int) + 3 else 7001 := ⟨_, rfl⟩
  have hT1 : 1 ≤ T := by rw [hT]; split <;> omega
  have hT2 : T ≤ 7001 := by rw [hT]; split <;> omega
  obtain ⟨clock, d7, l7, b7, r7⟩ := roll_ok (P := P) (gl := gl) (fuel := fuel) (n := n + 6) rfl d6 T hT1 (by omega) (by omega)
  have mi20 : sem2 .min2 (.int 7001) (.int ((ts.sum : Int) + 3)) = some (.v (.int T)) := by rw [q2_min2, hT]
  have a27 := c_served (fuel := fuel) (n := n + 3) ht (clock := clock) (by omega)
  have en22 := enumD_nat ts
  rw [tl] at en22
  have e22 := comp_map (ft := callF P gl fuel (n + 7)) (gl := gl) (own := [19, 18]) (pt := .two (.nm 19) (.nm 18)) (hc := false) (c := .none) (e := .tup (.cons (.var 18) (.cons (.var 19) .nil))) (en := EV S sp (.val (tn (srvd ts clock))) d7 (.val (tn ts)) (.val (tn ws)) (.val (tn ds)) (.val (.list ((ords m).map tn))) (.val (tn o)) (.val (.int (late ts ds (edd ds)))) (.val (tn (lg ts ds).2)) (.val (.int (clock : Int))) m z .non .non)
    (fun k : Nat => .tuple [.int (k : Int), .int (ts.getD k 0 : Nat)]) (fun i => ii ((at_ ts i : Int), (i : Int))) (List.range m) fun x hx => by
      have a : ts.getD x 0 = at_ ts x := rfl
      rw [a]
      simp [ii]
  have s22 := sorted_byN (fun i => (at_ ts i : Int)) m
  have s22e : byN (fun i => (at_ ts i : Int)) m = spt ts := by unfold spt; rw [tl]
  rw [s22e] at s22
  generalize hQ : (spt ts).map (fun i : Nat => ii ((at_ ts i : Int), (i : Int))) = Q at *
  obtain ⟨e23, _⟩ := for_fold (ft := callF P gl fuel (n + 7)) (gl := gl) (fuel := fuel) (w := [18, 19]) (pt := .two (.nm 18) (.nm 19)) (body := (.cons (.ifS (.op2 .le (.e (.op2 .add (.e (.op1 .sum (.e (.comp [11] (.nm 11) (.seq (.b 17)) false .none (.op2 .ix (.b 4) (.b 11)))))) (.b 18))) (.b 12)) (.cons (.app 17 (.var 19))
  .nil) .nil)
  .nil)) (fun l : List Nat => EV S sp (.val (tn (srvd ts clock))) d7 (.val (tn ts)) (.val (tn ws)) (.val (tn ds)) (.val (.list ((ords m).map tn))) (.val (tn o)) (.val (.int (late ts ds (edd ds)))) (.val (tn (lg ts ds).2)) (.val (.int (clock : Int))) m z (.val (.list Q)) (.own (l.map fun i : Nat => .int (i : Int)))) (fun ys l => (∀ x ∈ ys, x < ts.length) ∧ (∀ x ∈ l, x < ts.length) ∧ l.length + ys.length ≤ 7) (fun i : Nat => ii ((at_ ts i : Int), (i : Int))) (dstep ts clock) (fun y ys l i => by
      obtain ⟨i1, i2, i3⟩ := i
      simp only [List.length_cons] at i3
      have hy := i1 y List.mem_cons_self
      have e := comp_map (ft := callF P gl fuel (n + 7)) (gl := gl) (own := [11]) (pt := .nm 11) (hc := false) (c := .none) (e := .op2 .ix (.b 4) (.b 11)) (en := [.val S, .val sp, .val (tn (srvd ts clock)), .own (dc d7), .val (tn ts), .val (tn ws), .val (tn ds), .val (.list ((ords m).map tn)), .val (tn o), .val (.int (late ts ds (edd ds))), .val (tn (lg ts ds).2), .non, .val (.int (clock : Int)), .non, .val (.int (m : Int)), .val (.int (z : Int)), .val (.list Q), .lk (l.map fun i : Nat => .int (i : Int)), .val (.int (at_ ts y : Nat)), .val (.int (y : Int)), .non, .non])
        (fun i : Nat => .int (i : Int)) (fun x => .int (at_ ts x : Nat)) l fun x hx => by simp [ix_at (i2 x hx)]
      have si := intsOf_nat (at_ ts) l
      have sn := sum_nat (at_ ts) l
      have sn2 : (l.map (at_ ts)).sum = sm ts l := rfl
      rw [sn2] at sn
      have hz : szOk l.length = true := sz_of (by omega)
      have hz1 : szOk (l.length + 1) = true := sz_of (by omega)
      unfold dstep
      by_cases c : sm ts l + at_ ts y ≤ clock
      · rw [if_pos c]
        have c' : (sm ts l : Int) + (at_ ts y : Int) ≤ (clock : Int) := by omega
        refine ⟨⟨fun x hx => i1 x (List.mem_cons_of_mem _ hx), fun x hx => ?_, by simp; omega⟩, ?_⟩
        · rcases List.mem_append.1 hx with hx | hx
          · exact i2 x hx
          · rw [List.mem_singleton.1 hx]
            exact hy
        · simp [ii, e, si, sn, hz, hz1, c', compEnd]
      · rw [if_neg c]
        have c' : ¬ (sm ts l : Int) + (at_ ts y : Int) ≤ (clock : Int) := by omega
        refine ⟨⟨fun x hx => i1 x (List.mem_cons_of_mem _ hx), i2, by omega⟩, ?_⟩
        simp [ii, e, si, sn, hz, hz1, c', compEnd]) (spt ts) [] ⟨fun x hx => spt_ord.mem.1 hx, fun x hx => (nomatch hx), by rw [spt_ord.len]; simp; omega⟩
  have f23 : (spt ts).foldl (dstep ts clock) [] = got ts clock := dstep_fold ts clock (spt ts) []
  rw [f23, hQ] at e23
  simp only [List.map_nil] at e23
  have lQ : Q.length = m := by rw [← hQ, List.length_map, spt_ord.len, tl]
  have ss24 := srvd_sorted (ts := ts) clock
  have e24 := comp_map (ft := callF P gl fuel (n + 7)) (gl := gl) (own := [11]) (pt := .nm 11) (hc := false) (c := .none) (e := .op1 .len (.e (.comp [21] (.nm 21) (.seq (.e (.call 28 (.cons (.var 4) (.cons (.var 11) .nil))))) true (.op2 .le (.b 21) (.b 12)) (.var 21)))) (en := EV S sp (.val (tn (srvd ts clock))) d7 (.val (tn ts)) (.val (tn ws)) (.val (tn ds)) (.val (.list ((ords m).map tn))) (.val (tn o)) (.val (.int (late ts ds (edd ds)))) (.val (tn (lg ts ds).2)) (.val (.int (clock : Int))) m z (.val (.list Q)) (.own ((got ts clock).map fun i : Nat => .int (i : Int))))
    tn (fun o => .int (cnt ts o clock : Nat)) (ords m) fun x hx => by
      have t := c_lends (fuel := fuel) (n := n + 6) ht (oo x hx)
      have e := comp_sim (ft := callF P gl fuel (n + 7)) (gl := gl) (own := [21]) (pt := .nm 21) (hc := true) (c := .op2 .le (.b 21) (.b 12)) (e := .var 21) (en := [.val S, .val sp, .val (tn (srvd ts clock)), .own (dc d7), .val (tn ts), .val (tn ws), .val (tn ds), .val (.list ((ords m).map tn)), .val (tn o), .val (.int (late ts ds (edd ds))), .val (tn (lg ts ds).2), .val (tn x), .val (.int (clock : Int)), .non, .val (.int (m : Int)), .val (.int (z : Int)), .val (.list Q), .own ((got ts clock).map fun i : Nat => .int (i : Int)), .non, .non, .non, .non])
        (fun i : Nat => .int (i : Int)) (fun v => decide (v ≤ clock)) (fun i : Nat => .int (i : Int)) (ends ts x) fun v hv => by
          by_cases c : v ≤ clock
          · simp [c]
          · simp [c]
      have ec := ends_cnt (ts := ts) (o := x) clock
      have le : ((ends ts x).filter fun e => decide (e ≤ clock)).length ≤ (ends ts x).length := List.length_filter_le _ _
      rw [ends_len] at le
      have sq := seqOf_tn (ends ts x)
      generalize (ends ts x).filter (fun e => decide (e ≤ clock)) = F at *
      have hz : szOk (cnt ts x clock) = true := sz_of (by omega)
      have lF : (F.map fun i : Nat => PyData.int (i : Int)).length = cnt ts x clock := by rw [List.length_map, ec]
      generalize F.map (fun i : Nat => PyData.int (i : Int)) = F2 at *
      simp [t, sq, e, hz, lF, compEnd]
  have m24 := max_nat (xs := (ords m).map fun o => cnt ts o clock) (e := (got ts clock).length) (by rw [← cnt_spt]; exact List.mem_map_of_mem (f := fun o => cnt ts o clock) (mem_ords.2 (by rw [← tl]; exact spt_ord))) (fun y hy => by
    obtain ⟨x, hx, rfl⟩ := List.mem_map.1 hy
    exact cnt_le (oo x hx) clock)
  rw [List.map_map] at m24
  have m24 : sem1 .max (.list ((ords m).map fun o => PyData.int (cnt ts o clock : Nat))) = some (.v (.int ((got ts clock).length : Nat))) := m24
  have sl24 := srvd_len (ts := ts) clock
  have wset := wrong_set m
  have e25 := for_skip (ft := callF P gl fuel (n + 7)) (gl := gl) (fuel := fuel) (w := [13]) (pt := .nm 13) (body := (.cons (.ifS (.op1 .notN (.e (.call 26 (.cons (.var 4) (.cons (.var 6) (.cons (.var 13) .nil)))))) (.cons (.ret (.bool false))
  .nil) .nil)
  .nil)) (EV S sp (.val (tn (srvd ts clock))) d7 (.val (tn ts)) (.val (tn ws)) (.val (tn ds)) (.val (.list ((ords m).map tn))) (.val (tn o)) (.val (.int (late ts ds (edd ds)))) (.val (tn (lg ts ds).2)) (.val (.int (clock : Int))) m z (.val (.list Q)) (.own ((got ts clock).map fun i : Nat => .int (i : Int)))) id _ fun y hy => by
      obtain ⟨h1, h2⟩ := wset y hy
      rw [← tl] at h2
      have q := c_unshown (fuel := fuel) (n := n + 2) ht hu h1 h2
      simp [q, isNone]
  rw [List.map_id] at e25
  have tq := q1_tup_nat
  refine ⟨EV S sp (.val (tn (srvd ts clock))) d7 (.val (tn ts)) (.val (tn ws)) (.val (tn ds)) (.val (.list ((ords m).map tn))) (.val (tn o)) (.val (.int (late ts ds (edd ds)))) (.val (tn (lg ts ds).2)) (.val (.int (clock : Int))) m z (.val (.list Q)) (.own ((got ts clock).map fun i : Nat => .int (i : Int))), ?_, by simp [forgE_cons, forgE, fgS, gt_z, gt_s]⟩
  unfold bTurn b_law
  refine seq_step (e' := [.val S, .val sp, .non, .own (dc d), .non, .non, .non, .non, .non, .non, .non, .non, .non, .non, .non, .non, .non, .non, .non, .non, .non, .non]) ?_ ?_
  · simp [hdice]
  refine seq_step (e' := EV S sp .non d2 .non .non .non .non .non .non .non .non m z .non .non) ?_ ?_
  · simp [r1, r2]
  refine seq_step (e' := EV S sp .non d3 (.val (tn ts)) .non .non .non .non .non .non .non m z .non .non) ?_ ?_
  · have tw := tq ts
    have lB : (ts.map fun i : Nat => PyData.int (i : Int)).length = m := by rw [List.length_map, tl]
    generalize hB : ts.map (fun i : Nat => PyData.int (i : Int)) = B at *
    simp [gm, r3, lB, zm, tw, compEnd, -q1_tupl]
  refine seq_step (e' := EV S sp .non d4 (.val (tn ts)) (.val (tn ws)) .non .non .non .non .non .non m z .non .non) ?_ ?_
  · have tw := tq ws
    have lB : (ws.map fun i : Nat => PyData.int (i : Int)).length = m := by rw [List.length_map, wl]
    generalize hB : ws.map (fun i : Nat => PyData.int (i : Int)) = B at *
    simp [gm, r4, lB, zm, tw, compEnd, -q1_tupl]
  refine seq_step (e' := EV S sp .non d5 (.val (tn ts)) (.val (tn ws)) (.val (tn ds)) .non .non .non .non .non m z .non .non) ?_ ?_
  · have tw := tq ds
    have lB : (ds.map fun i : Nat => PyData.int (i : Int)).length = m := by rw [List.length_map, dl]
    generalize hB : ds.map (fun i : Nat => PyData.int (i : Int)) = B at *
    simp [gm, r5, lB, zm, tw, compEnd, -q1_tupl]
  refine seq_step (e' := EV S sp .non d5 (.val (tn ts)) (.val (tn ws)) (.val (tn ds)) (.val (.list ((ords m).map tn))) .non .non .non .non m z .non .non) ?_ ?_
  · have t0 : PyData.tuple ((List.range m).map fun i : Nat => .int (i : Int)) = tn (List.range m) := rfl
    simp [gm, zm, t0, c13]
  refine seq_step (e' := EV S sp .non d6 (.val (tn ts)) (.val (tn ws)) (.val (tn ds)) (.val (.list ((ords m).map tn))) (.val (tn o)) .non .non .non m z .non .non) ?_ ?_
  · simp [r6]
  refine seq_step (e' := EV S sp .non d6 (.val (tn ts)) (.val (tn ws)) (.val (tn ds)) (.val (.list ((ords m).map tn))) (.val (tn o)) .non .non .non m z .non .non) ?_ ?_
  · simp [a16, a28]
  refine seq_step (e' := EV S sp .non d6 (.val (tn ts)) (.val (tn ws)) (.val (tn ds)) (.val (.list ((ords m).map tn))) (.val (tn o)) .non .non .non m z .non .non) ?_ ?_
  · simp [a19, a29]
  refine seq_step (e' := EV S sp .non d6 (.val (tn ts)) (.val (tn ws)) (.val (tn ds)) (.val (.list ((ords m).map tn))) (.val (tn o)) .non .non .non m z .non .non) ?_ ?_
  · simp [a23, a30]
  refine seq_step (e' := EV S sp (.val (tn (smt ts ws ts.length))) d6 (.val (tn ts)) (.val (tn ws)) (.val (tn ds)) (.val (.list ((ords m).map tn))) (.val (tn o)) .non .non .non m z .non .non) ?_ ?_
  · simp [a21]
  refine seq_step (e' := EV S sp (.val (tn (smt ts ws ts.length))) d6 (.val (tn ts)) (.val (tn ws)) (.val (tn ds)) (.val (.list ((ords m).map tn))) (.val (tn o)) (.val (.int (wt ts ws (smt ts ws ts.length) : Nat))) .non .non m z .non .non) ?_ ?_
  · simp [e12, zo, m12, compEnd]
  refine seq_step (e' := EV S sp (.val (tn (smt ts ws ts.length))) d6 (.val (tn ts)) (.val (tn ws)) (.val (tn ds)) (.val (.list ((ords m).map tn))) (.val (tn o)) (.val (.int (wt ts ws (smt ts ws ts.length) : Nat))) .non .non m z .non .non) ?_ ?_
  · simp [a31, a29s]
  refine seq_step (e' := EV S sp (.val (tn (edd ds))) d6 (.val (tn ts)) (.val (tn ws)) (.val (tn ds)) (.val (.list ((ords m).map tn))) (.val (tn o)) (.val (.int (wt ts ws (smt ts ws ts.length) : Nat))) .non .non m z .non .non) ?_ ?_
  · simp [a24]
  refine seq_step (e' := EV S sp (.val (tn (edd ds))) d6 (.val (tn ts)) (.val (tn ws)) (.val (tn ds)) (.val (.list ((ords m).map tn))) (.val (tn o)) (.val (.int (late ts ds (edd ds)))) .non .non m z .non .non) ?_ ?_
  · simp [e15, zo, m15, compEnd]
  refine seq_step (e' := EV S sp (.val (tn (edd ds))) d6 (.val (tn ts)) (.val (tn ws)) (.val (tn ds)) (.val (.list ((ords m).map tn))) (.val (tn o)) (.val (.int (late ts ds (edd ds)))) .non .non m z .non .non) ?_ ?_
  · have tw := tq (edd ds)
    have ze : szOk (edd ds).length = true := by rw [el]; exact zm
    have lB : ((edd ds).map fun i : Nat => PyData.int (i : Int)).length = m := by rw [List.length_map, el]
    have ne := s2_ne_tn (edd ds) (edd ds)
    have sqd := seqOf_tn ds
    generalize (edd ds).map (fun i : Nat => PyData.int (i : Int)) = B at *
    simp [sqd, en16, e16, zm, s16, e16b, lB, tw, a30e, compEnd, -q1_tupl, -q1_sorl, -List.getD_eq_getElem?_getD]
  refine seq_step (e' := EV S sp (.val (tn (edd ds))) d6 (.val (tn ts)) (.val (tn ws)) (.val (tn ds)) (.val (.list ((ords m).map tn))) (.val (tn o)) (.val (.int (late ts ds (edd ds)))) (.val (tn (lg ts ds).2)) .non m z .non .non) ?_ ?_
  · simp [a25]
  refine seq_step (e' := EV S sp (.val (tn (edd ds))) d6 (.val (tn ts)) (.val (tn ws)) (.val (tn ds)) (.val (.list ((ords m).map tn))) (.val (tn o)) (.val (.int (late ts ds (edd ds)))) (.val (tn (lg ts ds).2)) .non m z .non .non) ?_ ?_
  · simp [c11, an18, fl18, a32, -List.any_map]
  refine seq_step (e' := EV S sp (.val (tn (edd ds))) d6 (.val (tn ts)) (.val (tn ws)) (.val (tn ds)) (.val (.list ((ords m).map tn))) (.val (tn o)) (.val (.int (late ts ds (edd ds)))) (.val (tn (lg ts ds).2)) .non m z .non .non) ?_ ?_
  · simp [c11, e19]
  refine seq_step (e' := EV S sp (.val (tn (edd ds))) d7 (.val (tn ts)) (.val (tn ws)) (.val (tn ds)) (.val (.list ((ords m).map tn))) (.val (tn o)) (.val (.int (late ts ds (edd ds)))) (.val (tn (lg ts ds).2)) (.val (.int (clock : Int))) m z .non .non) ?_ ?_
  · simp [su, mi20, r7, -q2_min2]
  refine seq_step (e' := EV S sp (.val (tn (srvd ts clock))) d7 (.val (tn ts)) (.val (tn ws)) (.val (tn ds)) (.val (.list ((ords m).map tn))) (.val (tn o)) (.val (.int (late ts ds (edd ds)))) (.val (tn (lg ts ds).2)) (.val (.int (clock : Int))) m z .non .non) ?_ ?_
  · simp [a27]
  refine seq_step (e' := EV S sp (.val (tn (srvd ts clock))) d7 (.val (tn ts)) (.val (tn ws)) (.val (tn ds)) (.val (.list ((ords m).map tn))) (.val (tn o)) (.val (.int (late ts ds (edd ds)))) (.val (tn (lg ts ds).2)) (.val (.int (clock : Int))) m z (.val (.list Q)) (.own [])) ?_ ?_
  · have sqd := seqOf_tn ts
    simp [sqd, en22, e22, zm, s22, compEnd, -q1_sorl, -List.getD_eq_getElem?_getD]
  refine seq_step (e' := EV S sp (.val (tn (srvd ts clock))) d7 (.val (tn ts)) (.val (tn ws)) (.val (tn ds)) (.val (.list ((ords m).map tn))) (.val (tn o)) (.val (.int (late ts ds (edd ds)))) (.val (tn (lg ts ds).2)) (.val (.int (clock : Int))) m z (.val (.list Q)) (.own ((got ts clock).map fun i : Nat => .int (i : Int)))) ?_ ?_
  · simp [e23]
  refine seq_step (e' := EV S sp (.val (tn (srvd ts clock))) d7 (.val (tn ts)) (.val (tn ws)) (.val (tn ds)) (.val (.list ((ords m).map tn))) (.val (tn o)) (.val (.int (late ts ds (edd ds)))) (.val (tn (lg ts ds).2)) (.val (.int (clock : Int))) m z (.val (.list Q)) (.own ((got ts clock).map fun i : Nat => .int (i : Int)))) ?_ ?_
  · have tw := tq (srvd ts clock)
    have ln : sem1 .len (tn (srvd ts clock)) = some (.v (.int ((got ts clock).length : Nat))) := by rw [← sl24]; simp [tn, sem1]
    have ne := s2_ne_tn (srvd ts clock) (srvd ts clock)
    generalize tn (srvd ts clock) = B at *
    simp [ss24, tw, ne, ln, e24, zo, m24, compEnd, -q1_tupl, -q1_sorl]
  refine seq_step (e' := EV S sp (.val (tn (srvd ts clock))) d7 (.val (tn ts)) (.val (tn ws)) (.val (tn ds)) (.val (.list ((ords m).map tn))) (.val (tn o)) (.val (.int (late ts ds (edd ds)))) (.val (tn (lg ts ds).2)) (.val (.int (clock : Int))) m z (.val (.list Q)) (.own ((got ts clock).map fun i : Nat => .int (i : Int)))) ?_ seq_nil
  simp [e25]
end K29

/-! part K29R -/
set_option Elab.async false
set_option linter.all false
set_option autoImplicit false
set_option maxRecDepth 1000000
set_option maxHeartbeats 4000000
/-! k29: what is told, the end, the law -/
namespace K29
open PL PySem
def restL : Ss := match b_law with
  | .cons _ r => r
  | _ => .nil
def rest2 : Ss := match restL with
  | .cons _ (.cons _ r) => r
  | _ => .nil
def rest3 : Ss := match rest2 with
  | .cons _ r => r
  | _ => .nil
def toldD : PyData := .list [.str "times", .str "order", .str "weights", .str "order", .str "times", .str "dues", .str "order", .str "dues", .str "times", .str "dues", .str "clock"]
theorem told_ok (S : PyData) : exSs (callF P gl 20000 8) gl 20000 restL [.val S, .non, .non, .non, .non, .non, .non, .non, .non, .non, .non, .non, .non, .non, .non, .non, .non, .non, .non, .non, .non, .non] = exSs (callF P gl 20000 8) gl 20000 rest2 [.val S, .non, .val toldD, .non, .non, .non, .non, .non, .non, .non, .non, .non, .non, .non, .non, .non, .non, .non, .non, .non, .non, .non] := by
  have a1 : callF P gl 20000 8 16 [.val (.tuple [.int 0]), .val .none] = .exc 0 "times" := by kernel_rfl
  have a2 : callF P gl 20000 8 16 [.val (.tuple [.int 1, .int 1]), .val (.tuple [.int 0, .int 0])] = .exc 0 "order" := by kernel_rfl
  have a3 : callF P gl 20000 8 19 [.val (.tuple [.int 1]), .val (.tuple [.int 0]), .val .none] = .exc 0 "weights" := by kernel_rfl
  have a4 : callF P gl 20000 8 19 [.val (.tuple [.int 1]), .val (.tuple [.int 1]), .val (.tuple [.int 1])] = .exc 0 "order" := by kernel_rfl
  have a5 : callF P gl 20000 8 21 [.val (.tuple [.int 1, .int 1, .int 1, .int 1, .int 1, .int 1, .int 1, .int 1]), .val (.tuple [])] = .exc 0 "times" := by kernel_rfl
  have a6 : callF P gl 20000 8 23 [.val (.tuple [.int 1]), .val (.tuple [.int 7001]), .val .none] = .exc 0 "dues" := by kernel_rfl
  have a7 : callF P gl 20000 8 23 [.val (.tuple [.int 1]), .val (.tuple [.int 1]), .val (.tuple [])] = .exc 0 "order" := by kernel_rfl
  have a8 : callF P gl 20000 8 24 [.val (.tuple [.int 1]), .val (.tuple [])] = .exc 0 "dues" := by kernel_rfl
  have a9 : callF P gl 20000 8 25 [.val (.list [.int 1]), .val (.tuple [])] = .exc 0 "times" := by kernel_rfl
  have a10 : callF P gl 20000 8 26 [.val (.tuple [.int 1]), .val .none, .val (.tuple [])] = .exc 0 "dues" := by kernel_rfl
  have a11 : callF P gl 20000 8 27 [.val (.tuple [.int 1]), .val (.int 7001)] = .exc 0 "clock" := by kernel_rfl
  have mu : sem2 .mul (.tuple [.int 1]) (.int 8) = some (.v (.tuple [.int 1, .int 1, .int 1, .int 1, .int 1, .int 1, .int 1, .int 1])) := by kernel_rfl
  refine seq_step (e' := [.val S, .non, .val toldD, .non, .non, .non, .non, .non, .non, .non, .non, .non, .non, .non, .non, .non, .non, .non, .non, .non, .non, .non]) ?_ ?_
  · simp [a1, a2, a3, a4, a5, a6, a7, a8, a9, a10, a11, mu, toldD, -q2_mult]
  exact seq_step (e' := [.val S, .non, .val toldD, .non, .non, .non, .non, .non, .non, .non, .non, .non, .non, .non, .non, .non, .non, .non, .non, .non, .non, .non]) (by kernel_rfl) rfl
theorem byN_eq {f : Nat → Int} {m : Nat} {zs : List Nat} (hp : (List.range m).Perm zs) (hz : zs.Pairwise fun a b => leN f a b = true) : byN f m = zs :=
  sort_eq leN_tr leN_tot (fun a _ b _ h1 h2 => by simp only [leN, decide_eq_true_eq] at h1 h2; omega) hp hz
theorem smE : smt [3, 1, 2] [1, 1, 4] 3 = [2, 1, 0] :=
  sort_eq leS_tr leS_tot (fun a _ b _ h1 h2 => leS_as h1 h2) (List.isPerm_iff.1 (by decide +kernel)) (by decide +kernel)
theorem edE : edd [5, 2, 5] = [1, 0, 2] := byN_eq (List.isPerm_iff.1 (by decide +kernel)) (by decide +kernel)
theorem spE : spt [4, 1, 2] = [1, 2, 0] := byN_eq (List.isPerm_iff.1 (by decide +kernel)) (by decide +kernel)
theorem lgE : (lg [5, 1] [3, 9]).2 = [0] := by
  unfold lg
  rw [su_eq (by decide)]
  decide +kernel
theorem svE : srvd [4, 1, 2] 3 = [1, 2] := by
  unfold srvd got
  rw [spE]
  decide +kernel
theorem tail_ok (S : PyData) : isRT (exSs (callF P gl 20000 8) gl 20000 restL [.val S, .non, .non, .non, .non, .non, .non, .non, .non, .non, .non, .non, .non, .non, .non, .non, .non, .non, .non, .non, .non, .non]) = true := by
  rw [told_ok]
  have a1 := c_lw (fuel := 20000) (n := 3) (ts := [3, 1, 2]) (ws := [1, 1, 4]) ⟨by decide, by decide⟩ ⟨rfl, by decide⟩
  have a2 := c_ll (fuel := 20000) (n := 3) (ts := [2, 2, 1]) (ds := [5, 2, 5]) ⟨by decide, by decide⟩ ⟨rfl, by decide⟩
  have a3 := c_endsof (fuel := 20000) (n := 4) (ts := [3, 1]) (o := [1, 0]) ⟨by decide, by decide⟩ (List.isPerm_iff.1 (by decide +kernel))
  have a4 := c_lg (fuel := 20000) (n := 3) (ts := [5, 1]) (ds := [3, 9]) ⟨by decide, by decide⟩ ⟨rfl, by decide⟩
  have a5 : callF P gl 20000 8 26 [.val (.tuple [.int 5, .int 1]), .val (.tuple [.int 3, .int 3]), .val (.tuple [.int 0, .int 1])] = .ok (.v (.int 3)) [.val (.tuple [.int 5, .int 1]), .val (.tuple [.int 3, .int 3]), .val (.tuple [.int 0, .int 1])] := by kernel_rfl
  have a6 := c_served (fuel := 20000) (n := 4) (ts := [4, 1, 2]) (clock := 3) ⟨by decide, by decide⟩ (by omega)
  rw [show [3, 1, 2].length = 3 from rfl, smE] at a1
  rw [edE] at a2
  rw [show ends [3, 1] [1, 0] = [4, 1] by decide +kernel] at a3
  rw [lgE] at a4
  rw [svE] at a6
  simp only [Int.cast_ofNat_Int] at a6
  have t1 : PyData.tuple [.int 3, .int 1, .int 2] = tn [3, 1, 2] := rfl
  have t2 : PyData.tuple [.int 1, .int 1, .int 4] = tn [1, 1, 4] := rfl
  have t3 : PyData.tuple [.int 2, .int 2, .int 1] = tn [2, 2, 1] := rfl
  have t4 : PyData.tuple [.int 5, .int 2, .int 5] = tn [5, 2, 5] := rfl
  have t5 : PyData.tuple [.int 2, .int 1, .int 0] = tn [2, 1, 0] := rfl
  have t6 : PyData.tuple [.int 1, .int 0, .int 2] = tn [1, 0, 2] := rfl
  have u1 : PyData.tuple [.int 3, .int 1] = tn [3, 1] := rfl
  have u2 : PyData.tuple [.int 1, .int 0] = tn [1, 0] := rfl
  have u3 : PyData.tuple [.int 3, .int 9] = tn [3, 9] := rfl
  have u5 : PyData.tuple [.int 4, .int 1, .int 2] = tn [4, 1, 2] := rfl
  have e1 : sem2 .ne (tn [2, 1, 0]) (tn [2, 1, 0]) = some (.v (.bool false)) := by kernel_rfl
  have e2 : sem2 .ne (tn [1, 0, 2]) (tn [1, 0, 2]) = some (.v (.bool false)) := by kernel_rfl
  have e3 : sem2 .eq (tn [4, 1]) (.tuple [.int 4, .int 1]) = some (.v (.bool true)) := by kernel_rfl
  have e4 : sem2 .eq (tn [0]) (.tuple [.int 0]) = some (.v (.bool true)) := by kernel_rfl
  have e5 : sem2 .eq (tn [1, 2]) (.tuple [.int 1, .int 2]) = some (.v (.bool true)) := by kernel_rfl
  have s1 : exSs (callF P gl 20000 8) gl 20000 rest2 [.val S, .non, .val toldD, .non, .non, .non, .non, .non, .non, .non, .non, .non, .non, .non, .non, .non, .non, .non, .non, .non, .non, .non] = exSs (callF P gl 20000 8) gl 20000 rest3 [.val S, .non, .val toldD, .non, .non, .non, .non, .non, .non, .non, .non, .non, .non, .non, .non, .non, .non, .non, .non, .non, .non, .non] := by
    refine seq_step (e' := [.val S, .non, .val toldD, .non, .non, .non, .non, .non, .non, .non, .non, .non, .non, .non, .non, .non, .non, .non, .non, .non, .non, .non]) ?_ rfl
    simp [a1, a2, t1, t2, t3, t4, t5, t6, e1, e2, -q2_net]
  rw [s1]
  unfold rest3 rest2 restL b_law
  have r : exSs (callF P gl 20000 8) gl 20000 (.cons (.ret (.andE (.op2 .eq (.e (.call 16 (.cons (.tup (.cons (.int 3) (.cons (.int 1) .nil))) (.cons (.tup (.cons (.int 1) (.cons (.int 0) .nil))) .nil)))) (.e (.tup (.cons (.int 4) (.cons (.int 1) .nil))))) (.andE (.op2 .eq (.e (.call 25 (.cons (.tup (.cons (.int 5) (.cons (.int 1) .nil))) (.cons (.tup (.cons (.int 3) (.cons (.int 9) .nil))) .nil)))) (.e (.tup (.cons (.int 0) .nil)))) (.andE (.op2 .eq (.e (.call 26 (.cons (.tup (.cons (.int 5) (.cons (.int 1) .nil))) (.cons (.tup (.cons (.int 3) (.cons (.int 3) .nil))) (.cons (.tup (.cons (.int 0) (.cons (.int 1) .nil))) .nil))))) (.e (.int 3))) (.op2 .eq (.e (.call 27 (.cons (.tup (.cons (.int 4) (.cons (.int 1) (.cons (.int 2) .nil)))) (.cons (.int 3) .nil)))) (.e (.tup (.cons (.int 1) (.cons (.int 2) .nil)))))))))
  .nil) [.val S, .non, .val toldD, .non, .non, .non, .non, .non, .non, .non, .non, .non, .non, .non, .non, .non, .non, .non, .non, .non, .non, .non] = .ret (.v (.bool true)) [.val S, .non, .val toldD, .non, .non, .non, .non, .non, .non, .non, .non, .non, .non, .non, .non, .non, .non, .non, .non, .non, .non, .non] := by
    have a4' : callF P gl 20000 8 25 [.val (.tuple [.int 5, .int 1]), .val (tn [3, 9])] = .ok (.v (tn [0])) [.val (tn [5, 1]), .val (tn [3, 9])] := a4
    simp [a3, a4', a5, a6, u1, u2, u3, u5, e3, e4, e5, -q2_eqt]
  exact congrArg isRT r
theorem law_run (ns : List Int) (hl : ns.length ≤ 63) : ∃ r, exSs (callF P gl 20000 8) gl 20000 b_law [.val (.list (ns.map .int)), .non, .non, .non, .non, .non, .non, .non, .non, .non, .non, .non, .non, .non, .non, .non, .non, .non, .non, .non, .non, .non] = r ∧ isRT r = true := by
  refine ⟨_, rfl, ?_⟩
  have hk : exSs (callF P gl 20000 8) gl 20000 b_law [.val (.list (ns.map .int)), .non, .non, .non, .non, .non, .non, .non, .non, .non, .non, .non, .non, .non, .non, .non, .non, .non, .non, .non, .non, .non] = exSs (callF P gl 20000 8) gl 20000 restL [.val (.list (ns.map .int)), .non, .non, .non, .non, .non, .non, .non, .non, .non, .non, .non, .non, .non, .non, .non, .non, .non, .non, .non, .non, .non] := by
    have g1 : rng1 (.int ((max 1 (min 4 ns.length) : Nat) : Int)) = some ((List.range (max 1 (min 4 ns.length))).map fun i : Nat => .int (i : Int)) := rng1_nat (by omega)
    have e1 : (if (if (ns.length : Int) < 4 then (ns.length : Int) else 4) > 1 then (if (ns.length : Int) < 4 then (ns.length : Int) else 4) else 1) = ((max 1 (min 4 ns.length) : Nat) : Int) := by split <;> split at * <;> omega
    refine seq_step (e' := [.val (.list (ns.map .int)), .non, .non, .non, .non, .non, .non, .non, .non, .non, .non, .non, .non, .non, .non, .non, .non, .non, .non, .non, .non, .non]) ?_ rfl
    rw [ex_for]
    have hit : evIt (callF P gl 20000 8) gl (.r1 (.op2 .max2 (.e (.int 1)) (.e (.op2 .min2 (.e (.int 4)) (.e (.op1 .len (.b 0))))))) [.val (.list (ns.map .int)), .non, .non, .non, .non, .non, .non, .non, .non, .non, .non, .non, .non, .non, .non, .non, .non, .non, .non, .non, .non, .non] = .ok ((List.range (max 1 (min 4 ns.length))).map fun i : Nat => .int (i : Int)) [.val (.list (ns.map .int)), .non, .non, .non, .non, .non, .non, .non, .non, .non, .non, .non, .non, .non, .non, .non, .non, .non, .non, .non, .non, .non] := by
      simp only [evIt_r1, ev_op2_ee, ev_int, o2A_ok, ev_op1_b, rdB_eq, gt_z, rB, Option.bind_some, q1_lenl, ol_some, o2B_ok, RV.d, q2_min2, q2_max2, r1K_ok, List.length_map, e1, g1]
    rw [hit, foK_ok]
    have hfg : forgE [.val (.list (ns.map .int)), .non, .non, .non, .non, .non, .non, .non, .non, .non, .non, .non, .non, .non, .non, .non, .non, .non, .non, .non, .non, .non] [1, 2, 3, 4, 5, 6, 7, 8, 9, 10, 11, 12, 13, 14, 15, 16, 17, 18, 19] = [.val (.list (ns.map .int)), .non, .non, .non, .non, .non, .non, .non, .non, .non, .non, .non, .non, .non, .non, .non, .non, .non, .non, .non, .non, .non] := by
      simp [forgE_cons, forgE, fgS, gt_z, gt_s]
    rw [hfg]
    refine for_skip _ (fun i : Nat => PyData.int (i : Int)) (List.range (max 1 (min 4 ns.length))) (fun k hk => ?_)
    have hk := List.mem_range.1 hk
    obtain ⟨e2, h1, h2⟩ := turn (fuel := 20000) (n := 1) (by omega) ns k (by omega)
    exact turn_of (by simp [bindP, stV, free_eq, gt_z, gt_s, frS]) h1 h2
  rw [hk]
  exact tail_ok _
theorem run_ok (ns : List Int) (hl : ns.length ≤ 63) : ∃ r, runF (callF P gl 20000 8) gl 20000 ⟨1, 22, b_law⟩ [.val (.list (ns.map .int))] = fin [.val (.list (ns.map .int))] r ∧ isRT r = true := by
  obtain ⟨r, h1, h2⟩ := law_run ns hl
  refine ⟨r, (runF_eq (by rfl)).trans (congrArg (fin _) ?_), h2⟩
  rw [← h1]
  exact congrArg (exSs (callF P gl 20000 8) gl 20000 b_law) rfl
end K29

/-! part H29 -/
set_option Elab.async false
set_option maxRecDepth 100000
set_option maxHeartbeats 0
set_option linter.all false
set_option autoImplicit false
namespace K29
open PL PySem PySem.Spec PyProof.Rows L2
def top (i : Nat) : Stmt := PySem.Challenge.pw_coatsback_k29_whole_owners_who_queue.main.body.getD i (.Pass ⟨0, 0, 0, 0⟩)
def ini : Stmt → Stmt
  | .ClassDef (body := b) .. => b.headD (.Pass ⟨0, 0, 0, 0⟩)
  | s => s
def D : List DefI := [⟨"demand", top 4, ["is_good", "name"], ["is_good", "name"], Std.b_demand, false⟩,
  ⟨"is_in", top 5, ["value", "low", "high"], ["value", "low", "high"], Std.b_is_in, false⟩,
  ⟨"is_tuple", top 6, ["value", "least", "most"], ["value", "least", "most"], Std.b_is_tuple, false⟩,
  ⟨"are_in", top 7, ["value", "least", "most", "low", "high", "one"], ["value", "least", "most", "low", "high"], Std.b_are_in, false⟩,
  ⟨"are_rising", top 8, ["value", "least", "most", "high", "one", "two"], ["value", "least", "most", "high"], Std.b_are_rising, false⟩,
  ⟨"is_order", top 9, ["value", "many"], ["value", "many"], Std.b_is_order, false⟩,
  ⟨"demand", top 4, ["is_good", "name"], ["is_good", "name"], Std.b_demand, false⟩,
  ⟨"_law_dice", top 27, ["script", "spot", "own", "mixed", "cell"], ["script", "spot"], Std.b__law_dice, false⟩,
  ⟨"_law_roll", top 28, ["dice", "total", "found"], ["dice", "total"], Std.b__law_roll, false⟩,
  ⟨"_law_pick", top 29, ["dice", "things"], ["dice", "things"], Std.b__law_pick, false⟩,
  ⟨"demand", top 4, ["is_good", "name"], ["is_good", "name"], Std.b_demand, false⟩,
  ⟨"_law_choices", top 32, ["many", "found", "number", "own"], ["many"], Std.b__law_choices, false⟩,
  ⟨"demand", top 4, ["is_good", "name"], ["is_good", "name"], Std.b_demand, false⟩,
  ⟨"_law_orders", top 31, ["things", "found", "turn", "longer", "own", "one"], ["things"], Std.b__law_orders2, false⟩,
  ⟨"demand", top 4, ["is_good", "name"], ["is_good", "name"], Std.b_demand, false⟩,
  ⟨"demand_times", top 13, ["times"], ["times"], b_demand_times, false⟩,
  ⟨"ends_of", top 14, ["times", "order"], ["times", "order"], b_ends_of, false⟩,
  ⟨"ends", top 15, ["times", "order", "owner", "found", "clock"], ["times", "order"], b_ends, false⟩,
  ⟨"demand_weights", top 16, ["times", "weights"], ["times", "weights"], b_demand_weights, false⟩,
  ⟨"waiting", top 17, ["times", "weights", "order", "end", "weight"], ["times", "weights", "order"], b_waiting, false⟩,
  ⟨"comes_first", top 18, ["times", "weights", "one", "other", "left", "right"], ["times", "weights", "one", "other"], b_comes_first, false⟩,
  ⟨"least_waiting", top 19, ["times", "weights", "found", "owner", "at", "other"], ["times", "weights"], b_least_waiting, false⟩,
  ⟨"demand_dues", top 20, ["times", "dues"], ["times", "dues"], b_demand_dues, false⟩,
  ⟨"lateness", top 21, ["times", "dues", "order", "end", "due"], ["times", "dues", "order"], b_lateness, false⟩,
  ⟨"least_lateness", top 22, ["times", "dues", "owner"], ["times", "dues"], b_least_lateness, true⟩,
  ⟨"late_group", top 23, ["times", "dues", "best", "due", "group", "late", "owner"], ["times", "dues"], b_late_group, false⟩,
  ⟨"shown_lateness", top 24, ["times", "dues", "value", "owner"], ["times", "dues", "value"], b_shown_lateness, false⟩,
  ⟨"most_served_by", top 25, ["times", "clock", "owner", "found", "used", "one"], ["times", "clock"], b_most_served_by, true⟩,
  ⟨"_law_ends", top 33, ["times", "order", "owner", "own"], ["times", "order"], b__law_ends, false⟩,
  ⟨"_law_waiting", top 34, ["times", "weights", "order", "end", "weight"], ["times", "weights", "order"], b__law_waiting, false⟩,
  ⟨"_law_late", top 35, ["times", "dues", "order", "found", "end", "due"], ["times", "dues", "order"], b__law_late, false⟩,
  ⟨"_law_by_ratio", top 36, ["times", "weights", "turn", "left", "found", "good", "own", "other"], ["times", "weights"], b__law_by_ratio, false⟩,
  ⟨"_law_shown", top 37, ["times", "dues", "group", "own"], ["times", "dues", "group"], b__law_shown, false⟩]
def dLaw : DefI := ⟨"law", top 38, ["script", "spot", "told", "dice", "times", "weights", "dues", "orders", "order", "least", "group", "own", "clock", "wrong", "many", "wide", "quick", "due", "time", "owner", "pair", "end"], ["script"], b_law, false⟩
def kws : List (Nat × List Str × List Nat) := [(27, ["clock", "times"], [1, 0]),
  (26, ["value", "dues", "times"], [2, 1, 0]),
  (25, ["dues", "times"], [1, 0]),
  (24, ["dues", "times"], [1, 0]),
  (21, ["weights", "times"], [1, 0]),
  (23, ["order", "dues", "times"], [2, 1, 0]),
  (19, ["order", "weights", "times"], [2, 1, 0]),
  (16, ["order", "times"], [1, 0])]
def xs : List XcI := [⟨"BadArgument", "name", ini (top 2)⟩]
def tls : List TlI := [⟨"_law_refused", top 30, "call", "BadArgument", "e"⟩]
def G : Prg := ⟨D, gl, ["MOST_OWNERS", "MOST_TIME"], ["BadArgument"], kws⟩
def I : HdI := ⟨PySem.Challenge.pw_coatsback_k29_whole_owners_who_queue, G, dLaw, tls, xs, ("law", none) :: (D.filter (·.lam)).map fun d => (d.x, none)⟩
theorem bnd : ∀ d ∈ dLaw :: D, ∀ (kV doc pm : Value) (an : Option Addr) (cdv ct : Value) (us : List Value), us.length = d.ps.length → bindArgs (PySem.W.fnOf d.x d.x (defArgs d.st) (defBody d.st) (defScope d.st) .none kV doc pm an cdv ct) ⟨us, []⟩ = pure (d.ps.zip us) :=
  List.forall_mem_cons.2 <| And.intro (fun _ _ _ _ _ _ us hu => match us, hu with | [_], _ => rfl) <| List.forall_mem_cons.2 <| And.intro (fun _ _ _ _ _ _ us hu => match us, hu with | [_, _], _ => rfl) <| List.forall_mem_cons.2 <| And.intro (fun _ _ _ _ _ _ us hu => match us, hu with | [_, _, _], _ => rfl) <| List.forall_mem_cons.2 <| And.intro (fun _ _ _ _ _ _ us hu => match us, hu with | [_, _, _], _ => rfl) <| List.forall_mem_cons.2 <| And.intro (fun _ _ _ _ _ _ us hu => match us, hu with | [_, _, _, _, _], _ => rfl) <| List.forall_mem_cons.2 <| And.intro (fun _ _ _ _ _ _ us hu => match us, hu with | [_, _, _, _], _ => rfl) <| List.forall_mem_cons.2 <| And.intro (fun _ _ _ _ _ _ us hu => match us, hu with | [_, _], _ => rfl) <| List.forall_mem_cons.2 <| And.intro (fun _ _ _ _ _ _ us hu => match us, hu with | [_, _], _ => rfl) <| List.forall_mem_cons.2 <| And.intro (fun _ _ _ _ _ _ us hu => match us, hu with | [_, _], _ => rfl) <| List.forall_mem_cons.2 <| And.intro (fun _ _ _ _ _ _ us hu => match us, hu with | [_, _], _ => rfl) <| List.forall_mem_cons.2 <| And.intro (fun _ _ _ _ _ _ us hu => match us, hu with | [_, _], _ => rfl) <| List.forall_mem_cons.2 <| And.intro (fun _ _ _ _ _ _ us hu => match us, hu with | [_, _], _ => rfl) <| List.forall_mem_cons.2 <| And.intro (fun _ _ _ _ _ _ us hu => match us, hu with | [_], _ => rfl) <| List.forall_mem_cons.2 <| And.intro (fun _ _ _ _ _ _ us hu => match us, hu with | [_, _], _ => rfl) <| List.forall_mem_cons.2 <| And.intro (fun _ _ _ _ _ _ us hu => match us, hu with | [_], _ => rfl) <| List.forall_mem_cons.2 <| And.intro (fun _ _ _ _ _ _ us hu => match us, hu with | [_, _], _ => rfl) <| List.forall_mem_cons.2 <| And.intro (fun _ _ _ _ _ _ us hu => match us, hu with | [_], _ => rfl) <| List.forall_mem_cons.2 <| And.intro (fun _ _ _ _ _ _ us hu => match us, hu with | [_, _], _ => rfl) <| List.forall_mem_cons.2 <| And.intro (fun _ _ _ _ _ _ us hu => match us, hu with | [_, _], _ => rfl) <| List.forall_mem_cons.2 <| And.intro (fun _ _ _ _ _ _ us hu => match us, hu with | [_, _], _ => rfl) <| List.forall_mem_cons.2 <| And.intro (fun _ _ _ _ _ _ us hu => match us, hu with | [_, _, _], _ => rfl) <| List.forall_mem_cons.2 <| And.intro (fun _ _ _ _ _ _ us hu => match us, hu with | [_, _, _, _], _ => rfl) <| List.forall_mem_cons.2 <| And.intro (fun _ _ _ _ _ _ us hu => match us, hu with | [_, _], _ => rfl) <| List.forall_mem_cons.2 <| And.intro (fun _ _ _ _ _ _ us hu => match us, hu with | [_, _], _ => rfl) <| List.forall_mem_cons.2 <| And.intro (fun _ _ _ _ _ _ us hu => match us, hu with | [_, _, _], _ => rfl) <| List.forall_mem_cons.2 <| And.intro (fun _ _ _ _ _ _ us hu => match us, hu with | [_, _], _ => rfl) <| List.forall_mem_cons.2 <| And.intro (fun _ _ _ _ _ _ us hu => match us, hu with | [_, _], _ => rfl) <| List.forall_mem_cons.2 <| And.intro (fun _ _ _ _ _ _ us hu => match us, hu with | [_, _, _], _ => rfl) <| List.forall_mem_cons.2 <| And.intro (fun _ _ _ _ _ _ us hu => match us, hu with | [_, _], _ => rfl) <| List.forall_mem_cons.2 <| And.intro (fun _ _ _ _ _ _ us hu => match us, hu with | [_, _], _ => rfl) <| List.forall_mem_cons.2 <| And.intro (fun _ _ _ _ _ _ us hu => match us, hu with | [_, _, _], _ => rfl) <| List.forall_mem_cons.2 <| And.intro (fun _ _ _ _ _ _ us hu => match us, hu with | [_, _, _], _ => rfl) <| List.forall_mem_cons.2 <| And.intro (fun _ _ _ _ _ _ us hu => match us, hu with | [_, _], _ => rfl) <| List.forall_mem_cons.2 <| And.intro (fun _ _ _ _ _ _ us hu => match us, hu with | [_, _, _], _ => rfl) <| fun _ h => nomatch h
theorem kwb : ∀ q ∈ kws, ∀ d, D[q.1]? = some d → (q.2.1.length = q.2.2.length) ∧ ∀ (kV doc pm : Value) (an : Option Addr) (cdv ct : Value) (ws : List Value), ws.length = q.2.1.length → bindArgs (PySem.W.fnOf d.x d.x (defArgs d.st) (defBody d.st) (defScope d.st) .none kV doc pm an cdv ct) ⟨[], q.2.1.zip ws⟩ = pure (d.ps.zip (q.2.2.map fun j => ws.getD j .none)) :=
  List.forall_mem_cons.2 <| And.intro (fun d h => by
    obtain rfl := Option.some.inj h
    exact ⟨rfl, fun _ _ _ _ _ _ us hu => match us, hu with | [_, _], _ => rfl⟩) <|
  List.forall_mem_cons.2 <| And.intro (fun d h => by
    obtain rfl := Option.some.inj h
    exact ⟨rfl, fun _ _ _ _ _ _ us hu => match us, hu with | [_, _, _], _ => rfl⟩) <|
  List.forall_mem_cons.2 <| And.intro (fun d h => by
    obtain rfl := Option.some.inj h
    exact ⟨rfl, fun _ _ _ _ _ _ us hu => match us, hu with | [_, _], _ => rfl⟩) <|
  List.forall_mem_cons.2 <| And.intro (fun d h => by
    obtain rfl := Option.some.inj h
    exact ⟨rfl, fun _ _ _ _ _ _ us hu => match us, hu with | [_, _], _ => rfl⟩) <|
  List.forall_mem_cons.2 <| And.intro (fun d h => by
    obtain rfl := Option.some.inj h
    exact ⟨rfl, fun _ _ _ _ _ _ us hu => match us, hu with | [_, _], _ => rfl⟩) <|
  List.forall_mem_cons.2 <| And.intro (fun d h => by
    obtain rfl := Option.some.inj h
    exact ⟨rfl, fun _ _ _ _ _ _ us hu => match us, hu with | [_, _, _], _ => rfl⟩) <|
  List.forall_mem_cons.2 <| And.intro (fun d h => by
    obtain rfl := Option.some.inj h
    exact ⟨rfl, fun _ _ _ _ _ _ us hu => match us, hu with | [_, _, _], _ => rfl⟩) <|
  List.forall_mem_cons.2 <| And.intro (fun d h => by
    obtain rfl := Option.some.inj h
    exact ⟨rfl, fun _ _ _ _ _ _ us hu => match us, hu with | [_, _], _ => rfl⟩) <|
  fun _ h => nomatch h
theorem tbnd : ∀ d ∈ tls, ∀ (kV doc pm : Value) (an : Option Addr) (cdv ct : Value) (us : List Value), us.length = 1 → bindArgs (PySem.W.fnOf d.x d.x (defArgs d.st) (defBody d.st) (defScope d.st) .none kV doc pm an cdv ct) ⟨us, []⟩ = pure (([d.a] : List Str).zip us) :=
  List.forall_mem_cons.2 <| And.intro (fun _ _ _ _ _ _ us hu => match us, hu with | [_], _ => rfl) <| fun _ h => nomatch h
theorem xsok : ∀ i ∈ xs, InitS I.P i :=
  List.forall_mem_cons.2 <| And.intro ⟨⟨_, rfl, rfl⟩, ⟨by rfl, by rfl, by rfl, by rfl, rfl, rfl, rfl, by decide +kernel, by decide, by decide⟩, by rfl, ⟨_, _, _, _, _, _, _, _, _, _, by rfl, rfl⟩, fun _ _ _ _ _ _ _ _ us hu => match us, hu with | [_, _], _ => rfl, by decide⟩ <| fun _ h => nomatch h
theorem hdok : HdOk I := ⟨by decide +kernel, by decide +kernel, xsok, rfl, bnd, tbnd, kwb⟩
theorem chk : G.chk (tls.map (·.x)) = true := by decide +kernel
theorem chl : chkD (G.nmT (tls.map (·.x))) G.xnm dLaw = true := by decide +kernel
theorem tl0 (i : TlI) (h : tls[0]? = some i) : TlOk I 0 i := by
  obtain rfl := Option.some.inj h
  exact ⟨by simp [I, tls], by decide, ⟨rfl, rfl, rfl, by decide +kernel, rfl, by decide +kernel, by decide +kernel⟩, ⟨_, rfl, rfl, ⟨_, _, _, _, _, _, _, _, _, _, _, _, rfl⟩⟩, by rfl, by rfl, Or.inl rfl, by decide, by decide, by decide, by decide, by decide, by decide⟩
theorem tlok : ∀ kd i, I.tls[kd]? = some i → TlOk I kd i
  | 0, i, h => tl0 i h
  | n + 1, i, h => nomatch h
def loose : List Str := (["BadArgument", "CoatError", "MOST_OWNERS", "MOST_TIME", "_law_by_ratio", "_law_choices", "_law_dice", "_law_ends", "_law_late", "_law_orders", "_law_pick", "_law_refused", "_law_roll", "_law_shown", "_law_waiting", "are_in", "are_rising", "comes_first", "demand", "demand_dues", "demand_times", "demand_weights", "ends", "ends_of", "is_in", "is_order", "is_tuple", "late_group", "lateness", "least_lateness"] : List Str) ++ (["least_waiting", "most_served_by", "shown_lateness", "waiting"] : List Str)
theorem run (w : World) : HandSHeadRun.RunEq (PySem.W.OpenLaw.row PySem.Challenge.rw_coatsback_k29_whole_owners_who_queue) (PySem.W.view (PySem.W.OpenLaw.row PySem.Challenge.rw_coatsback_k29_whole_owners_who_queue).prog [38]) I.hook I.ob 3000 loose w := by
  intro os
  kernel_rfl
end K29
open PySem PySem.W PySem.Calls PyProof.Rows
theorem K29.holds {fuel n : Nat} (hr : L2.Room (3 * n + 4) callerA) (run : ∀ ns : List Int, ns.length ≤ 63 → PL.isTrue (K29.G.run K29.dLaw fuel n ns) = true) : PySem.Challenge.rw_coatsback_k29_whole_owners_who_queue.Holds := by
  w_on; o_law
  refine HandSHeadRun.head_any (r := OpenLaw.row PySem.Challenge.rw_coatsback_k29_whole_owners_who_queue) (q := view (OpenLaw.row PySem.Challenge.rw_coatsback_k29_whole_owners_who_queue).prog [38]) (H := K29.I.hook) (ob := K29.I.ob) (M := 3000) (loose := K29.loose) (d := HandSHeadRun.topDef (OpenLaw.row PySem.Challenge.rw_coatsback_k29_whole_owners_who_queue).prog 38) (kwd := []) K29.I.ob_eq
    (by kernel_rfl) (fun s => by kernel_rfl) K29.run (by kernel_rfl) (by kernel_rfl) (by kernel_rfl) (by rfl) (by first | assumption | decide +kernel) (by decide +kernel) ⟨rfl, rfl, rfl, rfl, rfl, by decide +kernel⟩ ?hw ?hc
  case hw => w_witness2
  case hc =>
    refine LamX.walk_ofTsE (l := PySem.Challenge.rw_coatsback_k29_whole_owners_who_queue) (n := 63) (k := 3 * n + 4) (x := "script") (CX := fun w => L2.CX K29.I.P w) rfl (by decide) (by kernel_rfl) hr ?F (fun w _ _ _ _ h => PL.cx0_of _ _ _ _ _ h)
    intro w mg fa h Y Gm hmg0
    obtain ⟨K, KX, c⟩ := Y
    have hmg : mg ("law" : PySem.Str) = some (.ref fa) := by
      have e : (HandSHeadRun.topDef (OpenLaw.row PySem.Challenge.rw_coatsback_k29_whole_owners_who_queue).prog 38).name = ("law" : PySem.Str) := by kernel_rfl
      rw [← e]
      exact hmg0
    exact ⟨K, KX, PL.law_at (I := K29.I) (x := "script") K29.hdok rfl rfl c KX Gm hmg K29.chk K29.chl K29.tlok rfl run⟩

/-! part K29Z -/
set_option Elab.async false
set_option maxRecDepth 100000
namespace K29
open PL PySem
theorem fin_true {a : List Slot} {r : SOut} (h : isRT r = true) : isTrue (fin a r) = true := by
  cases r with
  | ret v e =>
    cases v with
    | v d =>
      cases d with
      | bool b => cases b <;> first | rfl | cases h
      | _ => cases h
    | l xs => cases h
  | _ => cases h
theorem run_all (ns : List Int) (hl : ns.length ≤ 63) : isTrue (G.run dLaw 20000 8 ns) = true := by
  obtain ⟨r, h1, h2⟩ := run_ok ns hl
  have e : G.run dLaw 20000 8 ns = runF (callF P gl 20000 8) gl 20000 ⟨1, 22, b_law⟩ [.val (.list (ns.map .int))] := rfl
  rw [e, h1]
  exact fin_true h2
end K29
open PySem PySem.W PyProof.Rows
theorem PySem.Challenge.cw_coatsback_k29_whole_owners_who_queue_holds : PySem.Challenge.rw_coatsback_k29_whole_owners_who_queue.Holds := by
  exact K29.holds (fuel := 20000) (n := 8) ⟨rfl, by decide, by decide⟩ K29.run_all
