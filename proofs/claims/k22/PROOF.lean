import PyProof.Rows.All
import Wide.All
import OpenK.AllK
import Wide.FinOn
import HandS.ForMost
import HandS.AnyAll
import HandS.EndTab
import HandS.Codes
import HandS.HeadHook4
import HandS.HeadWalk
import KE.KStateDown
import HandS.Head0
import HandS.Head1
import HandS.Head2
import HandS.Head3
import HandS.HeadEnd
import HandS.ExcIs
import HandS.ExcInit
import PySem.Challenge.RW_askcuts_k22_order_of_errors
import HandS.SortRule
import HandS.SortInts
import HandS.TupAny
import HandS.TupMul
import HandS.Zip
import KE.KDictPairs
import HandS.Conv
import HandS.Iter
import HandS.SetFor
import HandS.Strs
import HandS.Style
import HandS.Dict
import HandS.DictComp
import KE.GoesEnum
import HandS.SortKw
import HandS.MapJoin
import HandS.Defaults
import HandS.Ends
import KE.SortKeyHeap
import KE.KMathG
import KE.KIndexOf
import HandS.Lambda
import HandS.ExcOwn
import HandS.ExcField
import HandS.Star
import HandS.Flow
import HandS.Deep
import HandS.IsInst
import HandS.WordsDict
import HandS.More
import HandS.TupLen
import HandS.GenOver
import HandS.Gcd
set_option Elab.async false
set_option linter.all false
set_option maxRecDepth 100000
set_option maxHeartbeats 2000000
/-! ### an interpreter over pure data: data, syntax, evaluation -/
namespace Ev
open PySem PySem.Spec PyProof.Rows L2

/-- pure data -/
inductive D where
  | non | bl (b : Bool) | int (i : Int) | str (x : Str)
  | tup (ds : List D) | lst (ds : List D) | rol (ds : List D) | dct (kvs : List (D × D)) | dtt (kvs : List (D × D)) | fn (n : Nat)
  | obj (c : Nat) (fs : List (Nat × D))
instance : Inhabited D := ⟨.non⟩
abbrev Env := List (Option D)

inductive Res (α : Type) where
  | ok (a : α) | er (c : Nat) (x : D) | no
namespace Res
def bind {α β : Type} : Res α → (α → Res β) → Res β
  | .ok a, f => f a
  | .er c x, _ => .er c x
  | .no, _ => .no
/-- no exception leaves a comprehension -/
def sure {α : Type} : Res α → Res α
  | .ok a => .ok a
  | _ => .no
@[simp] theorem bind_ok {α β : Type} (a : α) (f : α → Res β) : (Res.ok a).bind f = f a := rfl
@[simp] theorem bind_er {α β : Type} (c : Nat) (x : D) (f : α → Res β) : (Res.er c x : Res α).bind f = .er c x := rfl
@[simp] theorem bind_no {α β : Type} (f : α → Res β) : (Res.no : Res α).bind f = .no := rfl
end Res

inductive Cls where
  | pl | mu | bo
  deriving DecidableEq
inductive Md where
  | esc | bor
inductive BO where
  | add | sub | mul | fdv | mod | pow
inductive CO where
  | eq | ne | lt | le | gt | ge | is | isnot | inn | notin
inductive UO where
  | neg | not
inductive Pr where
  | len | list | tuple | int | max | min | sorted | sum | dict | trg | sst | lns | srk | fct | lrg | seq | sne
inductive Mt where
  | ind | cnt
inductive Ty where
  | int | bool | str | tuple | list
inductive Tg where
  | nm (i : Nat) | tp (is : List Nat)
mutual
inductive E where
  | v (i : Nat) | m (i : Nat) | c (d : D) | stk
  | un (o : UO) (a : E) | bin (o : BO) (a b : E) | cmp (o : CO) (a b : E) | chn (o p : CO) (a b c : E)
  | and (a b : E) | or (a b : E) | ife (c a b : E)
  | tup (es : EL) | lst (es : EL)
  | idx (a b : E) | sli (a lo hi : E) | rev (a : E)
  | call (mt : Option Nat) (f : Nat) (as : EL) | pri (p : Pr) (as : EL) | mth (k : Mt) (o x : E) | isi (a : E) (ts : List Ty)
  | lc (tg : Tg) (it : It) (cs : EL) (e : E)
  | gen (all : Bool) (tg : Tg) (it : It) (cs : EL) (e : E)
  | dc (tg : Tg) (it : It) (cs : EL) (k e : E)
  | tld (val : Bool) (ws : List (Str × Bool)) (e : E)
inductive EL where
  | nil | cons (e : E) (r : EL) | star (e : E) (r : EL) | ref (i : Nat) (r : EL)
inductive It where
  | seq (e : E) | sqb (i : Nat) | rng (a b : E) | rng3 (a b c : E) | zip (a b : E) | enm (a : E)
end
mutual
inductive S where
  | asg (i : Nat) (e : E) | own (i : Nat) (e : E) | unp (is : List Nat) (e : E) | unl (is : List Nat) (e : E) | par (ts : List (Bool × Nat)) (es : EL)
  | swp (i : Nat) (a b x y : E) | sti (i : Nat) (k e : E) | mvp (i j k : Nat) (e : E) | app (i : Nat) (e : E)
  | exp (e : E) | ret (e : E) | rtf (i : Nat) | ifs (c : E) (a b : SL) | whl (c : E) (b : SL) | for (tg : Tg) (it : It) (b : SL) | fox (tg : Tg) (i : Nat) (b : SL)
  | brk | cnt | pas | rse (c : Nat) (as : EL)
inductive SL where
  | nil | cons (s : S) (r : SL)
end

mutual
/-- nothing that stood before is changed -/
def E.pur : E → Bool
  | .v _ | .m _ | .c _ | .stk => true
  | .un _ a | .rev a | .isi a _ => a.pur
  | .bin _ a b | .cmp _ a b | .and a b | .or a b | .idx a b | .mth _ a b => a.pur && b.pur
  | .chn _ _ a b c | .ife a b c | .sli a b c => a.pur && (b.pur && c.pur)
  | .tup es | .lst es | .pri _ es => es.pur
  | .call mt _ as => mt.isNone && as.pur
  | .lc _ it cs e | .gen _ _ it cs e => it.pur && (cs.pur && e.pur)
  | .dc _ it cs k e => it.pur && (cs.pur && (k.pur && e.pur))
  | .tld _ _ e => e.pur
def EL.pur : EL → Bool
  | .nil => true
  | .cons e r | .star e r => e.pur && r.pur
  | .ref _ r => r.pur
def It.pur : It → Bool
  | .seq e | .enm e => e.pur
  | .sqb _ => true
  | .rng a b | .zip a b => a.pur && b.pur
  | .rng3 a b c => a.pur && (b.pur && c.pur)
end
/-- its value is never a borrowed slot's -/
def E.own : E → Bool
  | .m _ => false
  | .and a b | .or a b => a.own && b.own
  | .ife _ a b => a.own && b.own
  | _ => true
/-- a list or dict that it gives is new -/
def E.isF : E → Bool
  | .lst _ | .lc .. | .sli .. | .rev _ | .dc .. | .bin .. => true
  | .pri p _ => match p with
    | .list | .sorted | .dict | .sst | .srk | .lrg => true
    | _ => false
  | _ => false

/-! #### operations on data -/
def LIM : Nat := 100000
def truth : D → Res Bool
  | .non => .ok false
  | .bl b => .ok b
  | .int i => .ok (i != 0)
  | .tup ds => .ok !ds.isEmpty
  | .lst ds => .ok !ds.isEmpty
  | .rol ds => .ok !ds.isEmpty
  | _ => .no
mutual
/-- no dicts, no functions within -/
def flat : D → Bool
  | .non | .bl _ | .int _ | .str _ => true
  | .tup ds => flatL ds
  | .lst ds => flatL ds
  | _ => false
def flatL : List D → Bool
  | [] => true
  | d :: ds => flat d && flatL ds
end
mutual
def dep : D → Nat
  | .tup ds => depL ds + 1
  | .lst ds => depL ds + 1
  | _ => 0
def depL : List D → Nat
  | [] => 0
  | d :: ds => max (dep d) (depL ds)
end
def okE (d : D) : Bool := flat d && decide (dep d ≤ 64)
mutual
def eqv : D → D → Bool
  | .non, .non => true
  | .bl a, .bl b => a == b
  | .bl a, .int j => (if a then 1 else 0) == j
  | .int i, .bl b => i == (if b then 1 else 0)
  | .int i, .int j => i == j
  | .str x, .str y => x == y
  | .lst xs, .lst ys => eqvL xs ys
  | .tup xs, .tup ys => eqvL xs ys
  | _, _ => false
def eqvL : List D → List D → Bool
  | [], [] => true
  | x :: xs, y :: ys => eqv x y && eqvL xs ys
  | _, _ => false
end
def isNon : D → Bool
  | .non => true
  | _ => false
/-- a list, a dict -/
def isC : D → Bool
  | .lst _ | .dct _ | .dtt _ => true
  | _ => false
/-- the things that are compared at once -/
def atom : D → Bool
  | .non | .bl _ | .int _ | .str _ => true
  | _ => false
def uop : UO → D → Res D
  | .neg, .int i => .ok (.int (-i))
  | .not, d => (truth d).bind fun b => .ok (.bl !b)
  | _, _ => .no
def smallI (i : Int) : Bool := decide (-(2 ^ 64) < i) && decide (i < 2 ^ 64)
def bop : BO → D → D → Res D
  | .add, .int i, .int j => .ok (.int (i + j))
  | .add, .lst xs, .lst ys => if xs.length + ys.length ≤ LIM then .ok (.lst (xs ++ ys)) else .no
  | .add, .tup xs, .tup ys => if xs.length + ys.length ≤ LIM then .ok (.tup (xs ++ ys)) else .no
  | .sub, .int i, .int j => .ok (.int (i - j))
  | .mul, .int i, .int j => if smallI i || smallI j then .ok (.int (i * j)) else .no
  | .mul, .lst xs, .int k => if 0 ≤ k ∧ k ≤ 1000 ∧ xs.length ≤ 1000 then .ok (.lst (List.replicate k.toNat xs).flatten) else .no
  | .mul, .tup xs, .int k => if 2 ≤ k ∧ k ≤ 1000 ∧ xs.length ≤ 1000 then .ok (.tup (List.replicate k.toNat xs).flatten) else .no
  | .fdv, .int i, .int j => if 0 < j ∧ j < 1073741824 then .ok (.int (i / j)) else .no
  | .mod, .int i, .int j => if 0 < j then .ok (.int (i % j)) else .no
  | .pow, .int i, .int j => if 0 ≤ j ∧ j ≤ 1000 ∧ smallI i then .ok (.int (i ^ j.toNat)) else .no
  | _, _, _ => .no
def memD (x : D) (ys : List D) : Bool := ys.any fun y => eqv y x
def lookD (k : D) : List (D × D) → Option D
  | [] => none
  | (q, d) :: r => if eqv q k then some d else lookD k r
/-- a dict's key -/
def isKey : D → Bool
  | .int _ | .str _ => true
  | _ => false
/-- a key that is a tuple of whole numbers -/
def isI : D → Bool
  | .int _ => true
  | _ => false
def isKeyT : D → Bool
  | .tup ds => ds.all isI
  | _ => false
def cop : CO → D → D → Res D
  | .eq, a, b => if okE a && okE b then .ok (.bl (eqv a b)) else .no
  | .ne, a, b => if okE a && okE b then .ok (.bl !(eqv a b)) else .no
  | .lt, .int i, .int j => .ok (.bl (decide (i < j)))
  | .le, .int i, .int j => .ok (.bl (decide (i ≤ j)))
  | .gt, .int i, .int j => .ok (.bl (decide (j < i)))
  | .ge, .int i, .int j => .ok (.bl (decide (j ≤ i)))
  | .is, a, .non => .ok (.bl (isNon a))
  | .is, .bl a, .bl b => .ok (.bl (a == b))
  | .isnot, a, .non => .ok (.bl !(isNon a))
  | .isnot, .bl a, .bl b => .ok (.bl !(a == b))
  | .inn, a, .lst xs => if okE a && okE (.lst xs) then .ok (.bl (memD a xs)) else .no
  | .notin, a, .lst xs => if okE a && okE (.lst xs) then .ok (.bl !(memD a xs)) else .no
  | .inn, a, .tup xs => if atom a && xs.all atom then .ok (.bl (memD a xs)) else .no
  | .notin, a, .tup xs => if atom a && xs.all atom then .ok (.bl !(memD a xs)) else .no
  | .inn, a, .rol xs => if atom a && xs.all atom then .ok (.bl (memD a xs)) else .no
  | .notin, a, .rol xs => if atom a && xs.all atom then .ok (.bl !(memD a xs)) else .no
  | .inn, a, .dct kvs => if isKey a = true then .ok (.bl (lookD a kvs).isSome) else .no
  | .notin, a, .dct kvs => if isKey a = true then .ok (.bl !((lookD a kvs).isSome)) else .no
  | _, _, _ => .no
def isiD : D → Ty → Bool
  | .bl _, .int | .bl _, .bool | .int _, .int | .str _, .str | .tup _, .tuple | .lst _, .list | .rol _, .list => true
  | _, _ => false
def isiOk : D → Bool
  | .rol _ | .fn _ | .obj _ _ | .dtt _ => false
  | _ => true
/-- the place of an index -/
def ixD (n : Nat) (i : Int) : Option Nat := if 0 ≤ i then (if i < n then some i.toNat else none) else if -(n : Int) ≤ i then some (i + n).toNat else none
def atD (xs : List D) (i : Int) : Res D := match (ixD xs.length i).bind fun j => xs[j]? with
  | some d => .ok d
  | none => .no
def putD (k d : D) (l : List (D × D)) : List (D × D) := if (l.any fun p => eqv p.1 k) = true then l.map (fun p => if eqv p.1 k = true then (p.1, d) else p) else l ++ [(k, d)]
/-- the pairs put in, one after another -/
def dictL : List D → List (D × D) → Res (List (D × D))
  | [], acc => .ok acc
  | .tup [k, d] :: r, acc => if isKey k = true then dictL r (putD k d acc) else .no
  | _, _ => .no
def iop : D → D → Res D
  | .tup xs, .int i => atD xs i
  | .lst xs, .int i => atD xs i
  | .rol xs, .int i => atD xs i
  | .dct kvs, k => if isKey k = true then (match lookD k kvs with
    | some d => .ok d
    | none => .no) else .no
  | .dtt kvs, k => if isKeyT k = true then (match lookD k kvs with
    | some d => .ok d
    | none => .no) else .no
  | _, _ => .no
/-- all whole numbers -/
def intsD : List D → Res (List Int)
  | [] => .ok []
  | .int i :: r => (intsD r).bind fun l => .ok (i :: l)
  | _ => .no
/-- a method of a list -/
def mthD : Mt → D → D → Res D
  | .ind, .tup ds, .int k => (intsD ds).bind fun l => if k ∈ l then .ok (.int (l.idxOf k : Nat)) else .no
  | .ind, .lst ds, x => if (atom x && ds.all atom) = true then (match ds.findIdx? fun y => eqv y x with
    | some j => .ok (.int (j : Nat))
    | none => .no) else .no
  | .cnt, .lst ds, x => if (atom x && ds.all atom) = true then .ok (.int (ds.countP fun y => eqv y x : Nat)) else .no
  | _, _, _ => .no
/-- a part of a slice; ab: it is left out -/
def prt (ab : Bool) : D → Res (Option Int)
  | .non => if ab = true then .ok none else .no
  | .int i => .ok (some i)
  | _ => .no
def E.abs : E → Bool
  | .c .non => true
  | _ => false
def sIxD (n d : Nat) : Option Int → Nat
  | none => d
  | some v => if v < 0 then (v + n).toNat else min v.toNat n
def cutD (xs : List D) (lo hi : Option Int) : List D := (xs.drop (sIxD xs.length 0 lo)).take (sIxD xs.length xs.length hi - sIxD xs.length 0 lo)
def slD : D → Option Int → Option Int → Res D
  | .tup xs, lo, hi => .ok (.tup (cutD xs lo hi))
  | .lst xs, lo, hi => .ok (.lst (cutD xs lo hi))
  | _, _, _ => .no
def pairsI : List D → Res (List (Int × Int))
  | [] => .ok []
  | .tup [.int i, .int j] :: r => (pairsI r).bind fun l => .ok ((i, j) :: l)
  | _ => .no
def insI (i : Int) : List Int → List Int
  | [] => [i]
  | j :: r => if i ≤ j then i :: j :: r else j :: insI i r
def sortI : List Int → List Int
  | [] => []
  | i :: r => insI i (sortI r)
def leP (p q : Int × Int) : Bool := decide (p.1 < q.1) || (p.1 == q.1 && decide (p.2 ≤ q.2))
def insP (p : Int × Int) : List (Int × Int) → List (Int × Int)
  | [] => [p]
  | q :: r => if leP p q then p :: q :: r else q :: insP p r
def sortP : List (Int × Int) → List (Int × Int)
  | [] => []
  | p :: r => insP p (sortP r)
def maxI : List Int → Res Int
  | [] => .no
  | i :: r => .ok (r.foldl (fun a b => if b > a then b else a) i)
def minI : List Int → Res Int
  | [] => .no
  | i :: r => .ok (r.foldl (fun a b => if b < a then b else a) i)
def pairD (p : Int × Int) : D := .tup [.int p.1, .int p.2]
def sortD (ds : List D) : Res D := match intsD ds with
  | .ok l => .ok (.lst ((sortI l).map .int))
  | _ => (pairsI ds).bind fun l => .ok (.lst ((sortP l).map pairD))
def smallR (i : Int) : Bool := decide (-1000000 ≤ i) && decide (i ≤ 1000000)
def insU (i : Int) : List Int → List Int
  | [] => [i]
  | j :: r => if i < j then i :: j :: r else if i = j then j :: r else j :: insU i r
/-- the members of a list, ascending -/
def setI : List Int → List Int
  | [] => []
  | i :: r => insU i (setI r)
/-- tuples by their first items -/
def fstL : List D → Res (List (Int × D))
  | [] => .ok []
  | .tup (.int i :: ds) :: r => (fstL r).bind fun l => .ok ((i, .tup (.int i :: ds)) :: l)
  | _ => .no
def insF (p : Int × D) : List (Int × D) → List (Int × D)
  | [] => [p]
  | q :: r => if p.1 ≤ q.1 then p :: q :: r else q :: insF p r
def sortF : List (Int × D) → List (Int × D)
  | [] => []
  | p :: r => insF p (sortF r)
def facI : Nat → Nat
  | 0 => 1
  | n + 1 => facI n * (n + 1)
def rngL (j : Int) : List D := (List.range j.toNat).map fun k => .int (k : Nat)
def priD : Pr → List D → Res D
  | .lrg, [.int j] => if smallR j = true then .ok (.lst (rngL j)) else .no
  | .seq, [.tup xs, .tup ys] => (intsD xs).bind fun l => (intsD ys).bind fun m => if l.length ≤ 63 ∧ m.length ≤ 63 then .ok (.bl (decide (setI l = setI m))) else .no
  | .sne, [.tup xs, .tup ys] => (intsD xs).bind fun l => (intsD ys).bind fun m => if l.length ≤ 63 ∧ m.length ≤ 63 then .ok (.bl !(decide (setI l = setI m))) else .no
  | .fct, [.int i] => if 0 ≤ i ∧ i ≤ 100 then .ok (.int (facI i.toNat : Nat)) else .no
  | .srk, [.lst ds] => (fstL ds).bind fun l => if (l.map (·.1)).Nodup ∧ l.length ≤ 1000 then .ok (.lst ((sortF l).map (·.2))) else .no
  | .len, [.tup ds] => .ok (.int ds.length)
  | .len, [.lst ds] => .ok (.int ds.length)
  | .len, [.rol ds] => .ok (.int ds.length)
  | .len, [.dct ds] => .ok (.int ds.length)
  | .list, [.tup ds] => .ok (.lst ds)
  | .list, [.lst ds] => .ok (.lst ds)
  | .tuple, [.tup ds] => .ok (.tup ds)
  | .tuple, [.lst ds] => .ok (.tup ds)
  | .int, [.int i] => .ok (.int i)
  | .int, [.bl b] => .ok (.int (if b then 1 else 0))
  | .max, [.int i, .int j] => .ok (.int (if j > i then j else i))
  | .min, [.int i, .int j] => .ok (.int (if j < i then j else i))
  | .max, [.lst ds] => (intsD ds).bind fun l => (maxI l).bind fun i => .ok (.int i)
  | .min, [.lst ds] => (intsD ds).bind fun l => (minI l).bind fun i => .ok (.int i)
  | .sorted, [.lst ds] => sortD ds
  | .sorted, [.tup ds] => sortD ds
  | .sorted, [.dct l] => (intsD (l.map (·.1))).bind fun ns => if ns.length < 64 then .ok (.lst ((sortI ns).map .int)) else .no
  | .sum, [.lst ds] => (intsD ds).bind fun l => .ok (.int l.sum)
  | .dict, [.tup ds] => (dictL ds []).bind fun l => .ok (.dct l)
  | .dict, [.lst ds] => (dictL ds []).bind fun l => .ok (.dct l)
  | .lns, [.lst ds] => (intsD ds).bind fun l => if l.length ≤ 4000 then .ok (.int (setI l).length) else .no
  | .sst, [.tup ds] => (intsD ds).bind fun l => if l.length ≤ 63 then .ok (.lst ((setI l).map .int)) else .no
  | .trg, [.int i, .int j, .int k] => if smallR i && (smallR j && (decide (k = -1) && decide ((i - j).toNat ≤ 1000))) then .ok (.tup ((List.range (i - j).toNat).map fun k => .int (i + (k : Nat) * (-1)))) else .no
  | _, _ => .no

/-- what is told of an exception: its class's word, with its datum if that is wanted -/
def wordD (ws : List (Str × Bool)) (c : Nat) (x : D) : Res D := match ws[c]? with
  | some (s, b) => .ok (if b = true then .tup [.str s, x] else .str s)
  | none => .no
/-- what an exception may carry -/
def payD : List D → Res D
  | [] => .ok .non
  | [.non] => .ok .non
  | [.int i] => .ok (.int i)
  | _ => .no

/-! #### the environment -/
def getE (ε : Env) (i : Nat) : Res D := match ε[i]? with
  | some (some d) => .ok d
  | _ => .no
def Tg.slots : Tg → List Nat
  | .nm i => [i]
  | .tp is => is
def bindL : List Nat → List D → Env → Res Env
  | [], [], ε => .ok ε
  | i :: is, d :: ds, ε => bindL is ds (ε.set i (some d))
  | _, _, _ => .no
def unlD : D → Res (List D)
  | .lst ds => .ok ds
  | _ => .no
def bindT : Tg → D → Env → Res Env
  | .nm i, d, ε => .ok (ε.set i (some d))
  | .tp is, .tup ds, ε => bindL is ds ε
  | .tp _, _, _ => .no
def wipeE (ε : Env) : List Nat → Env
  | [] => ε
  | v :: vs => (wipeE ε vs).set v none
/-- own slots as they were -/
def backE (ε0 ε : Env) : List Nat → Env
  | [] => ε
  | v :: vs => (backE ε0 ε vs).set v ((ε0[v]?).getD none)
/-- the items of a list that is made: f: one turn -/
def lcL (tg : Tg) (f : Env → Res (Option D × Env)) (vs : List Nat) : List D → Env → Res (List D × Env)
  | [], ε => .ok ([], ε)
  | x :: xs, ε => (bindT tg x (wipeE ε vs)).bind fun ε1 => (f ε1).bind fun q => (lcL tg f vs xs q.2).bind fun r =>
      .ok (match q.1 with | some d => d :: r.1 | none => r.1, r.2)
/-- all, any: the first that is not c ends -/
def genL (c : Bool) (tg : Tg) (f : Env → Res (Option D × Env)) (vs : List Nat) : List D → Env → Res (Bool × Env)
  | [], ε => .ok (c, ε)
  | x :: xs, ε => (bindT tg x (wipeE ε vs)).bind fun ε1 => (f ε1).bind fun q => match q.1 with
      | none => genL c tg f vs xs q.2
      | some (.bl b) => if b == c then genL c tg f vs xs q.2 else .ok (!c, q.2)
      | some _ => .no
def dcL (tg : Tg) (f : Env → Res (Option (D × D) × Env)) (vs : List Nat) : List D → List (D × D) → Env → Res (List (D × D) × Env)
  | [], acc, ε => .ok (acc, ε)
  | x :: xs, acc, ε => (bindT tg x (wipeE ε vs)).bind fun ε1 => (f ε1).bind fun q => match q.1 with
      | none => dcL tg f vs xs acc q.2
      | some (k, d) => if (isKey k && decide (acc.length < LIM)) = true then dcL tg f vs xs (putD k d acc) q.2 else .no
def sizeOk (ds : List D) : Res (List D) := if ds.length ≤ LIM then .ok ds else .no
def itemsD : D → Res (List D)
  | .tup ds => .ok ds
  | .lst ds => .ok ds
  | .rol ds => .ok ds
  | _ => .no
def rngD (i j : Int) : List D := (List.range (j - i).toNat).map fun k => .int (i + (k : Nat))
def rngD3 (i j c : Int) : Res (List D) :=
  if c = -1 then .ok ((List.range (i - j).toNat).map fun k => .int (i + (k : Nat) * (-1))) else .no
def zipD : List D → List D → List D
  | x :: xs, y :: ys => .tup [x, y] :: zipD xs ys
  | _, _ => []
def enmD : Nat → List D → List D
  | _, [] => []
  | n, x :: xs => .tup [.int (n : Nat), x] :: enmD (n + 1) xs
inductive Arg where
  | val (d : D) | ref (i : Nat)
def argsD (ε : Env) : List Arg → Res (List D)
  | [] => .ok []
  | .val d :: r => (argsD ε r).bind fun l => .ok (d :: l)
  | .ref i :: r => (getE ε i).bind fun d => (argsD ε r).bind fun l => .ok (d :: l)
/-- the slot that a call has changed -/
def setO : Option Nat → D → Env → Env
  | none, _, ε => ε
  | some i, o, ε => ε.set i (some o)
section
variable (call : Nat → List D → Res (D × D))
mutual
def ev : E → Md → Env → Res (D × Env)
  | .v i, _, ε => (getE ε i).bind fun d => .ok (d, ε)
  | .m i, .bor, ε => (getE ε i).bind fun d => .ok (d, ε)
  | .m _, .esc, _ => .no
  | .c d, _, ε => .ok (d, ε)
  | .stk, _, _ => .no
  | .un o a, _, ε => (ev a .bor ε).bind fun p => (uop o p.1).bind fun d => .ok (d, p.2)
  | .bin o a b, _, ε => (ev a .bor ε).bind fun p => (ev b .bor p.2).bind fun q => (bop o p.1 q.1).bind fun d => .ok (d, q.2)
  | .cmp o a b, _, ε => (ev a .bor ε).bind fun p => (ev b .bor p.2).bind fun q => (cop o p.1 q.1).bind fun d => .ok (d, q.2)
  | .chn o o' a b c, _, ε => (ev a .esc ε).bind fun p => (ev b .esc p.2).bind fun q => (cop o p.1 q.1).bind fun d => match d with
      | .bl true => (ev c .bor q.2).bind fun r => (cop o' q.1 r.1).bind fun d => .ok (d, r.2)
      | .bl false => .ok (.bl false, q.2)
      | _ => .no
  | .and a b, m, ε => (ev a m ε).bind fun p => (truth p.1).bind fun t => if t = true then ev b m p.2 else .ok p
  | .or a b, m, ε => (ev a m ε).bind fun p => (truth p.1).bind fun t => if t = true then .ok p else ev b m p.2
  | .ife c a b, m, ε => (ev c .bor ε).bind fun p => (truth p.1).bind fun t => if t = true then ev a m p.2 else ev b m p.2
  | .tup es, _, ε => (evL es ε).bind fun p => (sizeOk p.1).bind fun ds => .ok (.tup ds, p.2)
  | .lst es, _, ε => (evL es ε).bind fun p => (sizeOk p.1).bind fun ds => .ok (.lst ds, p.2)
  | .idx a b, _, ε => (ev a .bor ε).bind fun p => (ev b .esc p.2).bind fun q => (iop p.1 q.1).bind fun d => .ok (d, q.2)
  | .sli a lo hi, _, ε => (ev a .bor ε).bind fun p => ((ev lo .esc p.2).bind fun q => (prt lo.abs q.1).bind fun l => .ok (l, q.2)).bind fun q => ((ev hi .esc q.2).bind fun q => (prt hi.abs q.1).bind fun l => .ok (l, q.2)).bind fun r =>
      (slD p.1 q.1 r.1).bind fun d => .ok (d, r.2)
  | .rev a, _, ε => (ev a .bor ε).bind fun p => match p.1 with
      | .lst ds => .ok (.lst ds.reverse, p.2)
      | .tup ds => .ok (.tup ds.reverse, p.2)
      | _ => .no
  | .call mt f as, _, ε => (evA as ε).bind fun p => (argsD p.2 p.1).bind fun ds => (call f ds).bind fun r =>
      .ok (r.1, setO mt r.2 p.2)
  | .pri p as, _, ε => (ev1 as ε).bind fun q => (priD p q.1).bind fun d => .ok (d, q.2)
  | .mth k o x, _, ε => (ev o .bor ε).bind fun p => match p.1 with
      | .lst ds => (ev x .esc p.2).bind fun q => (mthD k (.lst ds) q.1).bind fun d => .ok (d, q.2)
      | .tup ds => (ev x .esc p.2).bind fun q => (mthD k (.tup ds) q.1).bind fun d => .ok (d, q.2)
      | _ => .no
  | .isi a ts, _, ε => (ev a .bor ε).bind fun p => if isiOk p.1 = true then .ok (.bl (ts.any fun t => isiD p.1 t), p.2) else .no
  | .lc tg it cs e, _, ε => (evI it ε).bind fun p => (lcL tg (fun ε1 => ((evC cs ε1).bind fun q => if q.1 = true then (ev e .esc q.2).bind fun r => .ok (some r.1, r.2) else .ok (none, q.2)).sure) tg.slots p.1 p.2).bind fun q =>
      (sizeOk q.1).bind fun ds => .ok (.lst ds, backE p.2 q.2 tg.slots)
  | .gen c tg it cs e, _, ε => (evI it ε).bind fun p => (genL c tg (fun ε1 => ((evC cs ε1).bind fun q => if q.1 = true then (ev e .esc q.2).bind fun r => .ok (some r.1, r.2) else .ok (none, q.2)).sure) tg.slots p.1 p.2).bind fun q =>
      .ok (.bl q.1, backE p.2 q.2 tg.slots)
  | .dc tg it cs k e, _, ε => (evI it ε).bind fun p => (dcL tg (fun ε1 => ((evC cs ε1).bind fun q => if q.1 = true then (ev k .esc q.2).bind fun s => (ev e .esc s.2).bind fun r => .ok (some (s.1, r.1), r.2) else .ok (none, q.2)).sure) tg.slots p.1 [] p.2).bind fun q =>
      if q.1.length ≤ LIM then .ok (.dct q.1, backE p.2 q.2 tg.slots) else .no
  | .tld val ws e, _, ε => match ev e .esc ε with
      | .ok p => .ok (if val = true then p.1 else .non, ε)
      | .er c x => (wordD ws c x).bind fun d => .ok (d, ε)
      | .no => .no
/-- displays -/
def evL : EL → Env → Res (List D × Env)
  | .nil, ε => .ok ([], ε)
  | .cons e r, ε => (ev e .esc ε).bind fun p => (evL r p.2).bind fun q => .ok (p.1 :: q.1, q.2)
  | .star e r, ε => (ev e .esc ε).bind fun p => (itemsD p.1).bind fun xs => (evL r p.2).bind fun q => .ok (xs ++ q.1, q.2)
  | .ref _ _, _ => .no
/-- a built-in's arguments: one may be borrowed -/
def ev1 : EL → Env → Res (List D × Env)
  | .cons e .nil, ε => (ev e .bor ε).bind fun p => .ok ([p.1], p.2)
  | .cons e (.cons f .nil), ε => (ev e .esc ε).bind fun p => (ev f .esc p.2).bind fun q => .ok ([p.1, q.1], q.2)
  | .cons e (.cons f (.cons g .nil)), ε => (ev e .esc ε).bind fun p => (ev f .esc p.2).bind fun q => (ev g .esc q.2).bind fun r => .ok ([p.1, q.1, r.1], r.2)
  | _, _ => .no
/-- a def's arguments -/
def evA : EL → Env → Res (List Arg × Env)
  | .nil, ε => .ok ([], ε)
  | .cons e r, ε => (ev e .esc ε).bind fun p => (evA r p.2).bind fun q => .ok (.val p.1 :: q.1, q.2)
  | .ref i r, ε => (getE ε i).bind fun _ => (evA r ε).bind fun q => .ok (.ref i :: q.1, q.2)
  | .star _ _, _ => .no
/-- a clause's tests -/
def evC : EL → Env → Res (Bool × Env)
  | .nil, ε => .ok (true, ε)
  | .cons e .nil, ε => (ev e .bor ε).bind fun p => (truth p.1).bind fun t => .ok (t, p.2)
  | _, _ => .no
def evI : It → Env → Res (List D × Env)
  | .seq e, ε => (ev e .esc ε).bind fun p => (itemsD p.1).bind fun xs => .ok (xs, p.2)
  | .sqb i, ε => (getE ε i).bind fun d => match d with
      | .lst ds => .ok (ds, ε)
      | _ => .no
  | .rng a b, ε => (ev a .esc ε).bind fun p => (ev b .esc p.2).bind fun q => match p.1, q.1 with
      | .int i, .int j => if smallR i && smallR j then .ok (rngD i j, q.2) else .no
      | _, _ => .no
  | .rng3 a b c, ε => (ev a .esc ε).bind fun p => (ev b .esc p.2).bind fun q => (ev c .esc q.2).bind fun r => match p.1, q.1, r.1 with
      | .int i, .int j, .int k => if smallR i && smallR j then (rngD3 i j k).bind fun xs => .ok (xs, r.2) else .no
      | _, _, _ => .no
  | .zip a b, ε => (ev a .esc ε).bind fun p => (ev b .esc p.2).bind fun q => match p.1, q.1 with
      | .lst xs, .lst ys => .ok (zipD xs ys, q.2)
      | .tup xs, .tup ys => .ok (zipD xs ys, q.2)
      | _, _ => .no
  | .enm a, ε => (ev a .esc ε).bind fun p => match p.1 with
      | .lst xs => .ok (enmD 0 xs, p.2)
      | .tup xs => .ok (enmD 0 xs, p.2)
      | _ => .no
end

/-! #### statements -/
inductive Fl where
  | nx | bk | ct | rt (d : D)
def forL (tg : Tg) (b : Env → Res (Fl × Env)) : List D → Env → Res (Fl × Env)
  | [], ε => .ok (.nx, ε)
  | x :: xs, ε => (bindT tg x ε).bind fun ε1 => (b ε1).bind fun q => match q.1 with
      | .nx => forL tg b xs q.2
      | .ct => forL tg b xs q.2
      | .bk => .ok (.nx, q.2)
      | .rt d => .ok (.rt d, q.2)
def whlL (c : Env → Res (Bool × Env)) (b : Env → Res (Fl × Env)) : Nat → Env → Res (Fl × Env)
  | 0, _ => .no
  | n + 1, ε => (c ε).bind fun p => if p.1 = true then (b p.2).bind fun q => match q.1 with
      | .nx => whlL c b n q.2
      | .ct => whlL c b n q.2
      | .bk => .ok (.nx, q.2)
      | .rt d => .ok (.rt d, q.2) else .ok (.nx, p.2)
/-- over a list that a slot holds, as it is at each turn -/
def foxL (tg : Tg) (i : Nat) (b : Env → Res (Fl × Env)) : Nat → Nat → Env → Res (Fl × Env)
  | 0, _, _ => .no
  | n + 1, k, ε => (getE ε i).bind fun d => match d with
    | .lst ds => match ds[k]? with
      | none => .ok (.nx, ε)
      | some x => (bindT tg x ε).bind fun ε1 => (b ε1).bind fun q => match q.1 with
        | .nx => foxL tg i b n (k + 1) q.2
        | .ct => foxL tg i b n (k + 1) q.2
        | .bk => .ok (.nx, q.2)
        | .rt d => .ok (.rt d, q.2)
    | _ => .no
def setD (xs : D) (k d : D) : Res D := match xs, k with
  | .lst xs, .int i => match ixD xs.length i with
    | some j => .ok (.lst (xs.set j d))
    | none => .no
  | .dct kvs, k => if (isKey k && decide (kvs.length < LIM)) = true then .ok (.dct (putD k d kvs)) else if (kvs.isEmpty && isKeyT k) = true then .ok (.dtt [(k, d)]) else .no
  | .dtt kvs, k => if (isKeyT k && decide (kvs.length < LIM)) = true then .ok (.dtt (putD k d kvs)) else .no
  | _, _ => .no
def parL : List (Bool × Nat) → List D → Env → Res Env
  | [], [], ε => .ok ε
  | t :: ts, d :: ds, ε => if (!t.1 || isC d) = true then parL ts ds (ε.set t.2 (some d)) else .no
  | _, _, _ => .no
variable (n : Nat)
mutual
def ex : S → Env → Res (Fl × Env)
  | .asg i e, ε => (ev call e .esc ε).bind fun p => .ok (.nx, p.2.set i (some p.1))
  | .own i e, ε => (ev call e .esc ε).bind fun p => if isC p.1 = true then .ok (.nx, p.2.set i (some p.1)) else .no
  | .unp is e, ε => (ev call e .esc ε).bind fun p => (bindT (.tp is) p.1 p.2).bind fun ε1 => .ok (.nx, ε1)
  | .unl is e, ε => (ev call e .esc ε).bind fun p => (unlD p.1).bind fun ds => (bindL is ds p.2).bind fun ε1 => .ok (.nx, ε1)
  | .par ts es, ε => (evL call es ε).bind fun p => (sizeOk p.1).bind fun ds => (parL ts ds p.2).bind fun ε1 => .ok (.nx, ε1)
  | .swp i a b x y, ε => (ev call x .esc ε).bind fun p => (ev call y .esc p.2).bind fun q => (getE q.2 i).bind fun _ => (ev call a .esc q.2).bind fun r => (getE r.2 i).bind fun xs => (setD xs r.1 p.1).bind fun xs1 =>
      (ev call b .esc (r.2.set i (some xs1))).bind fun s => (getE s.2 i).bind fun xs2 => (setD xs2 s.1 q.1).bind fun xs3 => .ok (.nx, s.2.set i (some xs3))
  | .sti i k e, ε => (ev call e .esc ε).bind fun p => (getE p.2 i).bind fun _ => (ev call k .esc p.2).bind fun q => (getE q.2 i).bind fun xs => (setD xs q.1 p.1).bind fun xs1 => .ok (.nx, q.2.set i (some xs1))
  | .mvp i j k e, ε => (getE ε i).bind fun _ => (ev call e .esc ε).bind fun p => (getE p.2 i).bind fun d => .ok (.nx, ((p.2.set i none).set j (some d)).set k (some p.1))
  | .app i e, ε => (getE ε i).bind fun d0 => match d0 with
      | .lst _ => (ev call e .esc ε).bind fun p => (getE p.2 i).bind fun xs => match xs with
        | .lst ds => if ds.length < LIM then .ok (.nx, p.2.set i (some (.lst (ds ++ [p.1])))) else .no
        | _ => .no
      | _ => .no
  | .exp e, ε => (ev call e .bor ε).bind fun p => .ok (.nx, p.2)
  | .ret e, ε => (ev call e .esc ε).bind fun p => .ok (.rt p.1, p.2)
  | .rtf i, ε => (getE ε i).bind fun d => .ok (.rt d, ε)
  | .ifs c a b, ε => (ev call c .bor ε).bind fun p => (truth p.1).bind fun t => if t = true then exs a p.2 else exs b p.2
  | .whl c b, ε => whlL (fun ε => (ev call c .bor ε).bind fun p => (truth p.1).bind fun t => .ok (t, p.2)) (fun ε => exs b ε) n ε
  | .for tg it b, ε => (evI call it ε).bind fun p => forL tg (fun ε => exs b ε) p.1 p.2
  | .fox tg i b, ε => foxL tg i (fun ε => exs b ε) n 0 ε
  | .brk, ε => .ok (.bk, ε)
  | .cnt, ε => .ok (.ct, ε)
  | .pas, ε => .ok (.nx, ε)
  | .rse c as, ε => (evL call as ε).bind fun p => (payD p.1).bind fun x => .er c x
def exs : SL → Env → Res (Fl × Env)
  | .nil, ε => .ok (.nx, ε)
  | .cons s r, ε => (ex s ε).bind fun q => match q.1 with
      | .nx => exs r q.2
      | _ => .ok q
end
end
/-- a def: its parameters, its slots, whether its first parameter is changed, its body -/
structure Fn where
  np : Nat
  ns : Nat
  m0 : Bool
  body : SL
def runF (call : Nat → List D → Res (D × D)) (n : Nat) (F : Fn) (ds : List D) : Res (D × D) :=
  if ds.length = F.np then (exs call n F.body (ds.map some ++ List.replicate (F.ns - F.np) none)).bind fun q => match q.1 with
    | .rt d => (if F.m0 then getE q.2 0 else .ok .non).bind fun o => .ok (d, o)
    | .nx => (if F.m0 then getE q.2 0 else .ok .non).bind fun o => .ok (.non, o)
    | _ => .no
  else .no
def callK (P : List Fn) (n : Nat) : Nat → Nat → List D → Res (D × D)
  | 0, _, _ => .no
  | k + 1, f, ds => match P[f]? with
    | some F => runF (callK P n k) n F ds
    | none => .no
end Ev
/-! ### the defs as data; what the head must tell (ahead of the machine: the head's run wants room) -/
namespace Ev
open PySem PySem.Spec PyProof.Rows L2
structure FI where
  cls : List Cls
  m0 : Bool
  np : Nat
  fst : Bool
abbrev FI.cl (I : FI) (j : Nat) : Cls := I.cls.getD j .pl
/-- what a global name is -/
inductive GV where
  | blt | con (d : D) | fn (n : Nat) | fct | exc (n : Nat) (f : Option Str) | tld (val : Bool) (ws : List (Str × Bool))
/-- a def as data: its names (parameters first), their classes, what it does to its parameters, whether it makes generator expressions -/
structure DefI where
  name : Str
  args : Arguments
  body : List Stmt
  scope : Scope
  N : List Str
  cl : List Cls
  np : Nat
  m0 : Bool
  gen : Bool
  lam : Bool := false
/-- its table of code objects bears lambdas of this name -/
def DefI.lq (d : DefI) : Option Str := if d.lam = true then some ((envOfC d.name d.scope 0 0 .none).qual ++ "<lambda>") else none
def DefI.ps (d : DefI) : List Str := d.N.take d.np
/-- it gives its one parameter's first item -/
def DefI.isF (d : DefI) : Bool := match d.body, d.ps with
  | [.Return (some (.Subscript (.Name x _) (.Constant (.int (.ofNat 0)) _ _) _)) _], [y] => decide (x = y) && (decide (d.scope.names.lookup x = some .local) && (!(x == ("__debug__" : Str)) && C8.scC [x] [x] d.scope))
  | _, _ => false
def DefI.fi (d : DefI) : FI := ⟨d.cl, d.m0, d.np, d.isF⟩
/-! #### constants of the top -/
def scV : D → Option V
  | .non => some .non
  | .bl b => some (.bl b)
  | .int i => some (.int i)
  | .str x => if PyData.strOk x then some (.str x) else none
  | _ => none
def scL : List D → Option (List V)
  | [] => some []
  | d :: r => match scV d, scL r with
    | some v, some vs => some (v :: vs)
    | _, _ => none
def conB (K : PySem.W.Frag) (x : Str) (d : D) : Bool := match PySem.W.nsIn K mainGlobals x with
  | some (some u) => match d with
    | .rol ds => (match u, scL ds with
      | .ref a, some vs => (match K.lookup a with
        | some ⟨.type c, none, .seq its _, _⟩ => decide (c = "list") && (decide (its.size ≤ 1000) && He.relAll vs its.toList)
        | _ => false)
      | _, _ => false)
    | d => match scV d with
      | some v => He.relB v u
      | none => false
  | _ => false
/-! #### what the head's look must tell -/
def DefI.dd (d : DefI) : He.DefD := ⟨(d.name, none), d.name, d.name, d.args, d.body, d.scope, [], []⟩
def faOf (gs : List (Str × GV)) (ds : List DefI) : List He.Fa := ds.map (fun d => He.Fa.glo d.name) ++ gs.filterMap fun p => match p.2 with
  | .blt => some (He.Fa.free p.1)
  | _ => none
/-- a class of exceptions with an own __init__ -/
def oexB (K : PySem.W.Frag) (c : Addr) : Bool := (match K.lookup c with
  | some ⟨.type "type", _, .cls cd, sl⟩ => (match cd.mro, sl.toList with
    | .ref c' :: bm, [_, _, _, _, some (.builtin n), _] => decide (c' = c) && (decide (n = "ValueError.__new__") && (!cd.hasDel && (cd.hasDict && PySem.HandSPX.refsVE bm)))
    | _, _ => false)
  | _ => false) && (decide (PySem.W.findIn K (.ref c) "__setattr__" = some (some (.builtin "object.__setattr__"))) && (decide (PySem.W.subIn K (.ref c) (.type "BaseException") = some true) && (decide (PySem.W.typeIn K (.ref c) = some (.type "type")) && PySem.W.keepIn K (.ref c))))
/-- def __init__(self, y): self.f = y, of the class x -/
structure IniI where
  x : Str
  f : Str
  args : Arguments
  body : List Stmt
  scope : Scope
  sf : Str
  pn : Str
def IniI.qual (i : IniI) : Str := i.x ++ ".__init__"
def IniI.dd (i : IniI) : He.DefD := ⟨(i.x, some "__init__"), "__init__", i.qual, i.args, i.body, i.scope, [], []⟩
def IniI.ok (i : IniI) : Bool := match i.body with
  | [.Assign [.Attribute (.Name sf _) g _] (.Name pn _) _] => decide (g = i.f) && (decide (sf = i.sf) && (decide (pn = i.pn) && (C8.scC [i.sf, i.pn] [i.sf, i.pn] i.scope && (!(i.sf == ("__debug__" : Str)) && (!(i.sf == ("__classdict__" : Str)) && (!(i.pn == ("__debug__" : Str)) && (!(i.pn == ("__classdict__" : Str)))))))))
  | _ => false
def excB (K : PySem.W.Frag) (x : Str) (f : Option Str) : Bool := match PySem.W.nsIn K mainGlobals x with
  | some (some (.ref c)) => (match f with
    | none => PySem.W.keepIn K (.ref c) && (PySem.W.excIn K c He.veBase "ValueError.__new__" && (decide (PySem.W.subIn K (.ref c) (.type "BaseException") = some true) && decide (PySem.W.typeIn K (.ref c) = some (.type "type"))))
    | some g => oexB K c && (decide (PySem.W.findIn K (.ref c) g = some none) && (match PySem.W.findIn K (.ref c) "__init__" with
      | some (some (.ref fI)) => decide (PySem.W.typeIn K (.ref fI) = some (.type "function"))
      | _ => false)))
  | _ => false
/-- the defs' tables stand apart -/
def tabB (ds : List DefI) (K : PySem.W.Frag) : Bool := decide (((ds.filter (·.gen)).map fun d => (He.cT K (d.name, none)).2).Nodup)
def exOf (gs : List (Str × GV)) (K : PySem.W.Frag) : Bool := gs.all fun p => match p.2 with
  | .con d => conB K p.1 d
  | .exc _ f => excB K p.1 f
  | .fct => (match PySem.W.nsIn K mainGlobals p.1 with
    | some (some (.builtin b)) => decide (b = "math.factorial")
    | _ => false)
  | _ => true
/-- a def that tells; its names; the classes that it asks for, three rows of them; their words -/
structure TolI where
  x : Str
  args : Arguments
  body : List Stmt
  scope : Scope
  a : Str
  e : Str
  sm : Str
  wn : Str
  ce : Str
  l1 : List Str
  l2 : List Str
  l3 : List Str
  ws : List Str
def TolI.ns (t : TolI) : List Str := t.l1 ++ t.l2 ++ t.l3
def TolI.dd (t : TolI) : He.DefD := ⟨(t.x, none), t.x, t.x, t.args, t.body, t.scope, [], []⟩
/-- what the classes must say -/
def excCB (K : PySem.W.Frag) (D : Addr) : Bool := decide (PySem.W.findIn K (.ref D) "__getattribute__" = some (some (.builtin "BaseException.__getattribute__"))) && (decide (PySem.W.findIn K (.ref D) "__getattr__" = some none) && (decide (PySem.W.subIn K (.ref D) (.type "BaseException") = some true) && (PySem.W.hasDictIn K D &&
  (decide (PySem.W.findIn K (.ref D) "__class__" = some (some (.builtin "object.__class__"))) && (decide (PySem.W.specialIn K (.builtin "object.__class__") "__get__" = some (some (.builtin "getset_descriptor.__get__"))) && (decide (PySem.W.takesIn K (.builtin "object.__class__") = some true) && decide (PySem.W.mroIn K D (.type "object") = some true)))))))
def tldB (t : TolI) (K : PySem.W.Frag) : Bool := decide (PySem.W.nsIn K mainGlobals t.x = some (some (.ref (He.ga K t.x)))) && (decide (PySem.W.nsIn K mainGlobals t.ce = some (some (.ref (He.ga K t.ce)))) && (decide (PySem.W.nsIn K mainGlobals ("isinstance" : Str) = some none) && t.ns.all fun x => decide (PySem.W.nsIn K mainGlobals x = some (some (.ref (He.ga K x)))) && (excCB K (He.ga K x) && (decide (PySem.W.exmOne K (.ref (He.ga K x)) (.ref (He.ga K t.ce)) = some true) &&
  t.ns.all fun y => decide (PySem.W.kitOne K (.ref (He.ga K x)) (.ref (He.ga K y)) = some (decide (x = y)))))))
def exAll (gs : List (Str × GV)) (ds : List DefI) (K : PySem.W.Frag) : Bool := exOf gs K && tabB ds K
def tfOf (ds : List DefI) : List He.Defn := (ds.filter (·.gen)).map fun d => (d.name, none)
end Ev
namespace Ev.K22
open PySem PySem.Spec PyProof.Rows L2
def top (i : Nat) : Stmt := PySem.Challenge.pw_askcuts_k22_order_of_errors.main.body.getD i (.Pass ⟨0, 0, 0, 0⟩)
def d_is_in : DefI := ⟨"is_in", C8.fnArgs (top 21), C8.fnBody (top 21), C8.fnScope (top 21), ["value", "least", "most"], [], 3, false, false, false⟩
def d_is_pair : DefI := ⟨"is_pair", C8.fnArgs (top 22), C8.fnBody (top 22), C8.fnScope (top 22), ["value"], [], 1, false, false, false⟩
def d_is_entry : DefI := ⟨"is_entry", C8.fnArgs (top 23), C8.fnBody (top 23), C8.fnScope (top 23), ["value"], [], 1, false, false, false⟩
def d_is_entries : DefI := ⟨"is_entries", C8.fnArgs (top 24), C8.fnBody (top 24), C8.fnScope (top 24), ["value", "one", "row", "number"], [], 1, false, true, false⟩
def d_is_end : DefI := ⟨"is_end", C8.fnArgs (top 25), C8.fnBody (top 25), C8.fnScope (top 25), ["value"], [], 1, false, false, false⟩
def d_is_row_of_ends : DefI := ⟨"is_row_of_ends", C8.fnArgs (top 26), C8.fnBody (top 26), C8.fnScope (top 26), ["value", "one"], [], 1, false, true, false⟩
def d_is_right : DefI := ⟨"is_right", C8.fnArgs (top 27), C8.fnBody (top 27), C8.fnScope (top 27), ["entries", "end", "place", "row", "value"], [], 3, false, true, false⟩
def d_is_column : DefI := ⟨"is_column", C8.fnArgs (top 28), C8.fnBody (top 28), C8.fnScope (top 28), ["value", "entries", "ends", "one", "k", "end", "place"], [], 1, false, true, false⟩
def d_need_column : DefI := ⟨"need_column", C8.fnArgs (top 29), C8.fnBody (top 29), C8.fnScope (top 29), ["column"], [], 1, false, false, false⟩
def d_need_entries : DefI := ⟨"need_entries", C8.fnArgs (top 30), C8.fnBody (top 30), C8.fnScope (top 30), ["entries"], [], 1, false, false, false⟩
def d_need_manner : DefI := ⟨"need_manner", C8.fnArgs (top 31), C8.fnBody (top 31), C8.fnScope (top 31), ["manner"], [], 1, false, false, false⟩
def d_need_moving : DefI := ⟨"need_moving", C8.fnArgs (top 32), C8.fnBody (top 32), C8.fnScope (top 32), ["manner"], [], 1, false, false, false⟩
def d_need_end : DefI := ⟨"need_end", C8.fnArgs (top 33), C8.fnBody (top 33), C8.fnScope (top 33), ["end", "least"], [], 2, false, false, false⟩
def d_need_ends : DefI := ⟨"need_ends", C8.fnArgs (top 34), C8.fnBody (top 34), C8.fnScope (top 34), ["ends"], [], 1, false, false, false⟩
def d_need_unlike : DefI := ⟨"need_unlike", C8.fnArgs (top 35), C8.fnBody (top 35), C8.fnScope (top 35), ["ends", "end"], [], 1, false, false, false⟩
def d_all_pieces : DefI := ⟨"all_pieces", C8.fnArgs (top 36), C8.fnBody (top 36), C8.fnScope (top 36), ["column", "entries", "ends", "places", "end", "place", "k"], [], 1, false, false, false⟩
def d_pieces : DefI := ⟨"pieces", C8.fnArgs (top 37), C8.fnBody (top 37), C8.fnScope (top 37), ["column"], [], 1, false, false, false⟩
def d_of_pieces : DefI := ⟨"of_pieces", C8.fnArgs (top 38), C8.fnBody (top 38), C8.fnScope (top 38), ["some", "ends", "entries", "places", "piece"], [.pl, .pl, .pl, .mu], 2, false, false, false⟩
def d_around : DefI := ⟨"around", C8.fnArgs (top 40), C8.fnBody (top 40), C8.fnScope (top 40), ["column", "end", "entries", "ends", "low", "one", "place", "high"], [], 2, false, false, false⟩
def d_has_end : DefI := ⟨"has_end", C8.fnArgs (top 41), C8.fnBody (top 41), C8.fnScope (top 41), ["column", "end", "one", "place"], [], 2, false, true, false⟩
def d_pushing_swaps : DefI := ⟨"pushing_swaps", C8.fnArgs (top 42), C8.fnBody (top 42), C8.fnScope (top 42), ["piece", "end", "some", "found", "border", "place"], [.pl, .pl, .mu, .mu], 2, false, false, false⟩
def d_swapping_swaps : DefI := ⟨"swapping_swaps", C8.fnArgs (top 43), C8.fnBody (top 43), C8.fnScope (top 43), ["piece", "end", "found", "left", "right"], [.pl, .pl, .mu], 2, false, false, false⟩
def d_all_swaps : DefI := ⟨"all_swaps", C8.fnArgs (top 44), C8.fnBody (top 44), C8.fnScope (top 44), ["column", "manner", "end", "low", "high", "piece", "found", "one", "other"], [], 3, false, false, false⟩
def d_changed : DefI := ⟨"changed", C8.fnArgs (top 45), C8.fnBody (top 45), C8.fnScope (top 45), ["entries", "pairs", "some", "one", "other"], [.pl, .pl, .mu], 2, false, false, false⟩
def d_steady : DefI := ⟨"steady", C8.fnArgs (top 46), C8.fnBody (top 46), C8.fnScope (top 46), ["column", "end", "entries", "low", "high", "less", "one", "more"], [], 2, false, false, false⟩
def d_with_end : DefI := ⟨"with_end", C8.fnArgs (top 47), C8.fnBody (top 47), C8.fnScope (top 47), ["column", "entries", "end", "place", "one"], [], 3, false, false, false⟩
def d_cut_at : DefI := ⟨"cut_at", C8.fnArgs (top 48), C8.fnBody (top 48), C8.fnScope (top 48), ["column", "manner", "end"], [], 3, false, false, false⟩
def d_cut : DefI := ⟨"cut", C8.fnArgs (top 49), C8.fnBody (top 49), C8.fnScope (top 49), ["column", "manner", "end"], [], 3, false, false, false⟩
def d_cut_row : DefI := ⟨"cut_row", C8.fnArgs (top 50), C8.fnBody (top 50), C8.fnScope (top 50), ["column", "manner", "ends", "end"], [], 3, false, false, false⟩
def d_cut_all : DefI := ⟨"cut_all", C8.fnArgs (top 51), C8.fnBody (top 51), C8.fnScope (top 51), ["column", "manner", "ends"], [], 3, false, false, false⟩
def d_looks : DefI := ⟨"looks", C8.fnArgs (top 52), C8.fnBody (top 52), C8.fnScope (top 52), ["column", "ends", "found", "end", "low", "high"], [], 2, false, false, false⟩
def d_stretch : DefI := ⟨"stretch", C8.fnArgs (top 53), C8.fnBody (top 53), C8.fnScope (top 53), ["column", "least", "most", "places", "row", "value"], [], 3, false, false, false⟩
def d_need_question : DefI := ⟨"need_question", C8.fnArgs (top 54), C8.fnBody (top 54), C8.fnScope (top 54), ["least", "most"], [], 2, false, false, false⟩
def d_asked : DefI := ⟨"asked", C8.fnArgs (top 55), C8.fnBody (top 55), C8.fnScope (top 55), ["column", "manner", "least", "most"], [], 4, false, false, false⟩
def d_plain_answer : DefI := ⟨"plain_answer", C8.fnArgs (top 56), C8.fnBody (top 56), C8.fnScope (top 56), ["column", "least", "most", "row", "value"], [], 3, false, false, false⟩
def d_grown : DefI := ⟨"grown", C8.fnArgs (top 58), C8.fnBody (top 58), C8.fnScope (top 58), ["tree", "end"], [], 2, false, false, false⟩
def d_built : DefI := ⟨"built", C8.fnArgs (top 59), C8.fnBody (top 59), C8.fnScope (top 59), ["ends", "tree", "end"], [], 1, false, false, false⟩
def d_in_order : DefI := ⟨"in_order", C8.fnArgs (top 60), C8.fnBody (top 60), C8.fnScope (top 60), ["tree"], [], 1, false, false, false⟩
def d_ahead : DefI := ⟨"ahead", C8.fnArgs (top 61), C8.fnBody (top 61), C8.fnScope (top 61), ["tree"], [], 1, false, false, false⟩
def d_has_form : DefI := ⟨"has_form", C8.fnArgs (top 62), C8.fnBody (top 62), C8.fnScope (top 62), ["value", "deep"], [], 2, false, false, false⟩
def d_is_tree : DefI := ⟨"is_tree", C8.fnArgs (top 63), C8.fnBody (top 63), C8.fnScope (top 63), ["value", "some", "k"], [], 1, false, true, false⟩
def d_need_tree : DefI := ⟨"need_tree", C8.fnArgs (top 64), C8.fnBody (top 64), C8.fnScope (top 64), ["tree"], [], 1, false, false, false⟩
def d_need_two : DefI := ⟨"need_two", C8.fnArgs (top 67), C8.fnBody (top 67), C8.fnScope (top 67), ["manner", "one", "other"], [], 3, false, false, false⟩
def d_is_alike : DefI := ⟨"is_alike", C8.fnArgs (top 68), C8.fnBody (top 68), C8.fnScope (top 68), ["manner", "one", "other"], [], 3, false, false, false⟩
def d_alike : DefI := ⟨"alike", C8.fnArgs (top 69), C8.fnBody (top 69), C8.fnScope (top 69), ["manner", "one", "other"], [], 3, false, false, false⟩
def d_shows_parting : DefI := ⟨"shows_parting", C8.fnArgs (top 70), C8.fnBody (top 70), C8.fnScope (top 70), ["manner", "one", "other", "value"], [], 4, false, false, false⟩
def d_need_rows : DefI := ⟨"need_rows", C8.fnArgs (top 71), C8.fnBody (top 71), C8.fnScope (top 71), ["one", "other"], [], 2, false, false, false⟩
def d_exchanged : DefI := ⟨"exchanged", C8.fnArgs (top 72), C8.fnBody (top 72), C8.fnScope (top 72), ["row", "index"], [], 2, false, false, false⟩
def d_all_exchanges : DefI := ⟨"all_exchanges", C8.fnArgs (top 73), C8.fnBody (top 73), C8.fnScope (top 73), ["one", "other", "places", "place", "end", "row", "found", "many", "index"], [.pl, .pl, .pl, .pl, .pl, .mu, .mu], 2, false, false, false⟩
def d_exchanges : DefI := ⟨"exchanges", C8.fnArgs (top 74), C8.fnBody (top 74), C8.fnScope (top 74), ["one", "other"], [], 2, false, false, false⟩
def d_shows_exchanges : DefI := ⟨"shows_exchanges", C8.fnArgs (top 75), C8.fnBody (top 75), C8.fnScope (top 75), ["one", "other", "value", "tree", "row", "index"], [], 3, false, false, false⟩
def d_joined : DefI := ⟨"joined", C8.fnArgs (top 77), C8.fnBody (top 77), C8.fnScope (top 77), ["one", "other", "is_left", "left", "is_right", "right"], [], 2, false, false, false⟩
def d_joined_tree : DefI := ⟨"joined_tree", C8.fnArgs (top 78), C8.fnBody (top 78), C8.fnScope (top 78), ["one", "other", "is_joined", "tree"], [], 2, false, false, false⟩
def d_replays : DefI := ⟨"replays", C8.fnArgs (top 79), C8.fnBody (top 79), C8.fnScope (top 79), ["manner", "one", "other", "order", "end", "is_joined", "tree"], [], 3, false, false, false⟩
def d_swaps_of : DefI := ⟨"swaps_of", C8.fnArgs (top 82), C8.fnBody (top 82), C8.fnScope (top 82), ["column", "manner", "end"], [], 3, false, false, false⟩
def d_need_cut : DefI := ⟨"need_cut", C8.fnArgs (top 83), C8.fnBody (top 83), C8.fnScope (top 83), ["column", "manner", "end"], [], 3, false, false, false⟩
def d_swaps : DefI := ⟨"swaps", C8.fnArgs (top 84), C8.fnBody (top 84), C8.fnScope (top 84), ["column", "manner", "end"], [], 3, false, false, false⟩
def d_broken : DefI := ⟨"broken", C8.fnArgs (top 85), C8.fnBody (top 85), C8.fnScope (top 85), ["column", "manner", "end", "many"], [], 4, false, false, false⟩
def d_need_counts : DefI := ⟨"need_counts", C8.fnArgs (top 89), C8.fnBody (top 89), C8.fnScope (top 89), ["counts", "one"], [], 1, false, true, false⟩
def d_sum_looks : DefI := ⟨"sum_looks", C8.fnArgs (top 90), C8.fnBody (top 90), C8.fnScope (top 90), ["counts", "tree", "many"], [], 2, false, false, false⟩
def d_tree_looks : DefI := ⟨"tree_looks", C8.fnArgs (top 91), C8.fnBody (top 91), C8.fnScope (top 91), ["counts", "tree"], [], 2, false, false, false⟩
def d_all_looks : DefI := ⟨"all_looks", C8.fnArgs (top 92), C8.fnBody (top 92), C8.fnScope (top 92), ["counts", "sign", "found", "k", "length", "first", "last", "whole", "best", "end", "part"], [.pl, .pl, .mu], 2, false, false, false⟩
def d_least_looks : DefI := ⟨"least_looks", C8.fnArgs (top 93), C8.fnBody (top 93), C8.fnScope (top 93), ["counts"], [], 1, false, false, false⟩
def d_is_table : DefI := ⟨"is_table", C8.fnArgs (top 94), C8.fnBody (top 94), C8.fnScope (top 94), ["counts", "value", "many", "first", "line", "one"], [], 2, false, true, false⟩
def d_shows_below : DefI := ⟨"shows_below", C8.fnArgs (top 95), C8.fnBody (top 95), C8.fnScope (top 95), ["counts", "value", "first", "last", "whole", "number", "end"], [], 2, false, false, false⟩
def d_sizes : DefI := ⟨"sizes", C8.fnArgs (top 99), C8.fnBody (top 99), C8.fnScope (top 99), ["tree"], [], 1, false, false, false⟩
def d_forest_count : DefI := ⟨"forest_count", C8.fnArgs (top 100), C8.fnBody (top 100), C8.fnScope (top 100), ["forest", "many", "below", "tree"], [], 1, false, false, false⟩
def d_without : DefI := ⟨"without", C8.fnArgs (top 101), C8.fnBody (top 101), C8.fnScope (top 101), ["forest", "top", "found", "tree"], [], 2, false, false, false⟩
def d_tops : DefI := ⟨"tops", C8.fnArgs (top 102), C8.fnBody (top 102), C8.fnScope (top 102), ["forest", "end", "tree"], [], 1, false, false, false⟩
def d_first_of : DefI := ⟨"first_of", C8.fnArgs (top 103), C8.fnBody (top 103), C8.fnScope (top 103), ["pair"], [], 1, false, false, false⟩
def d_order_at : DefI := ⟨"order_at", C8.fnArgs (top 104), C8.fnBody (top 104), C8.fnScope (top 104), ["tree", "index", "forest", "found", "top", "many"], [.pl, .pl, .pl, .mu], 2, false, false, false⟩
def d_tree_count : DefI := ⟨"tree_count", C8.fnArgs (top 105), C8.fnBody (top 105), C8.fnScope (top 105), ["counts", "most", "found", "k", "length", "first", "looks", "many"], [.pl, .pl, .mu], 2, false, true, false⟩
def d_spread : DefI := ⟨"spread", C8.fnArgs (top 106), C8.fnBody (top 106), C8.fnScope (top 106), ["counts", "found", "first", "last", "whole", "sums", "end", "one", "many", "other", "more", "part"], [.pl, .pl, .pl, .pl, .pl, .mu], 4, false, false, false⟩
def d_all_done : DefI := ⟨"all_done", C8.fnArgs (top 110), C8.fnBody (top 110), C8.fnScope (top 110), ["entries", "manner", "deeds", "session", "index", "deed"], [], 3, false, false, false⟩
def d_worked : DefI := ⟨"worked", C8.fnArgs (top 111), C8.fnBody (top 111), C8.fnScope (top 111), ["entries", "manner", "deeds", "session"], [], 3, false, false, false⟩
def d_moves : DefI := ⟨"moves", C8.fnArgs (top 112), C8.fnBody (top 112), C8.fnScope (top 112), ["entries", "manner", "deeds"], [], 3, false, false, false⟩
def d_is_hand : DefI := ⟨"is_hand", C8.fnArgs (top 118), C8.fnBody (top 118), C8.fnScope (top 118), ["value", "one"], [], 1, false, true, false⟩
def d_all_woven : DefI := ⟨"all_woven", C8.fnArgs (top 119), C8.fnBody (top 119), C8.fnScope (top 119), ["column", "manner", "hands", "turns", "one", "index", "hand", "weaving"], [], 4, false, true, false⟩
def d_woven : DefI := ⟨"woven", C8.fnArgs (top 120), C8.fnBody (top 120), C8.fnScope (top 120), ["column", "manner", "hands", "turns", "weaving", "some"], [], 4, false, false, false⟩
def d_finished : DefI := ⟨"finished", C8.fnArgs (top 121), C8.fnBody (top 121), C8.fnScope (top 121), ["column", "manner", "hands", "turns", "weaving", "hand"], [], 4, false, false, false⟩
def d__law_taken : DefI := ⟨"_law_taken", C8.fnArgs (top 123), C8.fnBody (top 123), C8.fnScope (top 123), ["_law_row", "_law_many", "_law_found", "_law_cell"], [.mu], 2, true, false, false⟩
def d__law_pick : DefI := ⟨"_law_pick", C8.fnArgs (top 124), C8.fnBody (top 124), C8.fnScope (top 124), ["_law_row", "_law_things"], [.mu], 2, true, false, false⟩
def d_law : DefI := ⟨"law", C8.fnArgs (top 126), C8.fnBody (top 126), C8.fnScope (top 126), ["_law_script", "_law_row", "_law_at", "_law_good", "_law_told_here", "_law_due"], [.pl, .mu, .pl, .pl, .mu], 1, false, true, true⟩
def defs0 : List DefI := [d_is_in, d_is_pair, d_is_entry, d_is_entries, d_is_end, d_is_row_of_ends, d_is_right, d_is_column, d_need_column, d_need_entries, d_need_manner, d_need_moving, d_need_end, d_need_ends, d_need_unlike, d_all_pieces, d_pieces, d_of_pieces, d_around, d_has_end, d_pushing_swaps, d_swapping_swaps, d_all_swaps, d_changed, d_steady]
def defs1 : List DefI := [d_with_end, d_cut_at, d_cut, d_cut_row, d_cut_all, d_looks, d_stretch, d_need_question, d_asked, d_plain_answer, d_grown, d_built, d_in_order, d_ahead, d_has_form, d_is_tree, d_need_tree, d_need_two, d_is_alike, d_alike, d_shows_parting, d_need_rows, d_exchanged, d_all_exchanges, d_exchanges]
def defs2 : List DefI := [d_shows_exchanges, d_joined, d_joined_tree, d_replays, d_swaps_of, d_need_cut, d_swaps, d_broken, d_need_counts, d_sum_looks, d_tree_looks, d_all_looks, d_least_looks, d_is_table, d_shows_below, d_sizes, d_forest_count, d_without, d_tops, d_first_of, d_order_at, d_tree_count, d_spread, d_all_done, d_worked]
def defs3 : List DefI := [d_moves, d_is_hand, d_all_woven, d_woven, d_finished, d__law_taken, d__law_pick, d_law]
def defs : List DefI := defs0 ++ defs1 ++ defs2 ++ defs3
def tws : List (Str × Bool) := [("changes", false), ("column", false), ("counts", false), ("end", false), ("ends", false), ("entries", false), ("hands", false), ("manner", false), ("number", false), ("tree", false), ("turns", false), ("many", false)]
def gs0 : List (Str × GV) := [("is_in", .fn 0), ("is_pair", .fn 1), ("is_entry", .fn 2), ("is_entries", .fn 3), ("is_end", .fn 4), ("is_row_of_ends", .fn 5), ("is_right", .fn 6), ("is_column", .fn 7), ("need_column", .fn 8), ("need_entries", .fn 9), ("need_manner", .fn 10), ("need_moving", .fn 11), ("need_end", .fn 12), ("need_ends", .fn 13), ("need_unlike", .fn 14), ("all_pieces", .fn 15), ("pieces", .fn 16), ("of_pieces", .fn 17), ("around", .fn 18), ("has_end", .fn 19), ("pushing_swaps", .fn 20), ("swapping_swaps", .fn 21), ("all_swaps", .fn 22), ("changed", .fn 23), ("steady", .fn 24)]
def gs1 : List (Str × GV) := [("with_end", .fn 25), ("cut_at", .fn 26), ("cut", .fn 27), ("cut_row", .fn 28), ("cut_all", .fn 29), ("looks", .fn 30), ("stretch", .fn 31), ("need_question", .fn 32), ("asked", .fn 33), ("plain_answer", .fn 34), ("grown", .fn 35), ("built", .fn 36), ("in_order", .fn 37), ("ahead", .fn 38), ("has_form", .fn 39), ("is_tree", .fn 40), ("need_tree", .fn 41), ("need_two", .fn 42), ("is_alike", .fn 43), ("alike", .fn 44), ("shows_parting", .fn 45), ("need_rows", .fn 46), ("exchanged", .fn 47), ("all_exchanges", .fn 48), ("exchanges", .fn 49)]
def gs2 : List (Str × GV) := [("shows_exchanges", .fn 50), ("joined", .fn 51), ("joined_tree", .fn 52), ("replays", .fn 53), ("swaps_of", .fn 54), ("need_cut", .fn 55), ("swaps", .fn 56), ("broken", .fn 57), ("need_counts", .fn 58), ("sum_looks", .fn 59), ("tree_looks", .fn 60), ("all_looks", .fn 61), ("least_looks", .fn 62), ("is_table", .fn 63), ("shows_below", .fn 64), ("sizes", .fn 65), ("forest_count", .fn 66), ("without", .fn 67), ("tops", .fn 68), ("first_of", .fn 69), ("order_at", .fn 70), ("tree_count", .fn 71), ("spread", .fn 72), ("all_done", .fn 73), ("worked", .fn 74)]
def gs3 : List (Str × GV) := [("moves", .fn 75), ("is_hand", .fn 76), ("all_woven", .fn 77), ("woven", .fn 78), ("finished", .fn 79), ("_law_taken", .fn 80), ("_law_pick", .fn 81), ("law", .fn 82), ("MOST_ROW", .con (.int 1000000)), ("MOST_VALUE", .con (.int 1000000)), ("MOST_ENTRIES", .con (.int 300)), ("MOST_ENDS", .con (.int 60)), ("MANNERS", .con (.rol [(.str ⟨#[115, 116, 101, 97, 100, 121]⟩), (.str ⟨#[112, 117, 115, 104, 105, 110, 103]⟩), (.str ⟨#[115, 119, 97, 112, 112, 105, 110, 103]⟩)])), ("PARTED", .con (.int 4)), ("MOST_MANY", .con (.int 1000)), ("MOST_COUNT", .con (.int 1000000000000)), ("MOST_COUNTS", .con (.int 31)), ("MOST_FEW", .con (.int 11)), ("MOST_LOOKS", .con (.int 1000000000000000)), ("MOST_DEEDS", .con (.int 200)), ("MOST_HANDS", .con (.int 4)), ("MOST_WISHES", .con (.int 10)), ("MOST_TURNS", .con (.int 400)), ("set", .blt), ("dict", .blt)]
def gs4 : List (Str × GV) := [("len", .blt), ("list", .blt), ("tuple", .blt), ("int", .blt), ("max", .blt), ("min", .blt), ("sorted", .blt), ("sum", .blt), ("all", .blt), ("any", .blt), ("isinstance", .blt), ("range", .blt), ("zip", .blt), ("enumerate", .blt), ("bool", .blt), ("str", .blt), ("factorial", .fct), ("BadChanges", .exc 0 (some "index")), ("BadColumn", .exc 1 none), ("BadCounts", .exc 2 none), ("BadEnd", .exc 3 none), ("BadEnds", .exc 4 none), ("BadEntries", .exc 5 none), ("BadHands", .exc 6 none), ("BadManner", .exc 7 none)]
def gs5 : List (Str × GV) := [("BadNumber", .exc 8 none), ("BadTree", .exc 9 none), ("BadTurns", .exc 10 (some "index")), ("TooMany", .exc 11 (some "most")), ("_law_told", .tld false tws)]
def gs : List (Str × GV) := gs0 ++ gs1 ++ gs2 ++ gs3 ++ gs4 ++ gs5
def fis : List FI := defs.map DefI.fi
def cm (i j : Nat) : Stmt := (C8.clsBody (top i)).getD j (.Pass ⟨0, 0, 0, 0⟩)
def ini_BadChanges : IniI := ⟨"BadChanges", "index", C8.fnArgs (cm 11 0), C8.fnBody (cm 11 0), C8.fnScope (cm 11 0), "self", "index"⟩
def ini_BadTurns : IniI := ⟨"BadTurns", "index", C8.fnArgs (cm 13 0), C8.fnBody (cm 13 0), C8.fnScope (cm 13 0), "self", "index"⟩
def ini_TooMany : IniI := ⟨"TooMany", "most", C8.fnArgs (cm 14 0), C8.fnBody (cm 14 0), C8.fnScope (cm 14 0), "self", "most"⟩
def inis : List IniI := [ini_BadChanges, ini_BadTurns, ini_TooMany]
def tol : TolI := ⟨"_law_told", C8.fnArgs (top 125), C8.fnBody (top 125), C8.fnScope (top 125), "_law_work", "e", "_law_some", "_law_words", "ColumnError", ["BadChanges", "BadColumn", "BadCounts", "BadEnd"], ["BadEnds", "BadEntries", "BadHands", "BadManner"], ["BadNumber", "BadTree", "BadTurns", "TooMany"], ["changes", "column", "counts", "end", "ends", "entries", "hands", "manner", "number", "tree", "turns", "many"]⟩
def b_is_in : SL := (.cons (.ret (.and (.isi (.v 0) [.int]) (.and (.un .not (.isi (.v 0) [.bool])) (.chn .le .le (.v 1) (.v 0) (.v 2))))) .nil)
def b_is_pair : SL := (.cons (.ret (.and (.isi (.v 0) [.tuple]) (.cmp .eq (.pri .len (.cons (.v 0) .nil)) (.c (.int 2))))) .nil)
def b_is_entry : SL := (.cons (.ret (.and (.call none 1 (.cons (.v 0) .nil)) (.and (.call none 0 (.cons (.idx (.v 0) (.c (.int 0))) (.cons (.c (.int 0)) (.cons (.c (.int 1000000)) .nil)))) (.call none 0 (.cons (.idx (.v 0) (.c (.int 1))) (.cons (.bin .sub (.c (.int 0)) (.c (.int 1000000))) (.cons (.c (.int 1000000)) .nil))))))) .nil)
def b_is_entries : SL := (.cons (.ifs (.or (.un .not (.isi (.v 0) [.tuple])) (.or (.cmp .gt (.pri .len (.cons (.v 0) .nil)) (.c (.int 300))) (.un .not (.gen true (.nm 1) (.seq (.v 0)) .nil (.call none 2 (.cons (.v 1) .nil)))))) (.cons (.ret (.c (.bl false))) .nil) .nil) (.cons (.ret (.cmp .eq (.pri .len (.cons (.dc (.tp [2, 3]) (.seq (.v 0)) .nil (.v 2) (.c (.bl true))) .nil)) (.pri .len (.cons (.v 0) .nil)))) .nil))
def b_is_end : SL := (.cons (.ret (.call none 0 (.cons (.v 0) (.cons (.bin .sub (.c (.int 1)) (.c (.int 1000000))) (.cons (.c (.int 1000000)) .nil))))) .nil)
def b_is_row_of_ends : SL := (.cons (.ret (.and (.isi (.v 0) [.tuple]) (.and (.cmp .le (.pri .len (.cons (.v 0) .nil)) (.c (.int 60))) (.gen true (.nm 1) (.seq (.v 0)) .nil (.call none 4 (.cons (.v 1) .nil)))))) .nil)
def b_is_right : SL := (.cons (.ifs (.un .not (.gen true (.tp [3, 4]) (.seq (.sli (.v 0) (.c .non) (.v 2))) .nil (.cmp .lt (.v 4) (.v 1)))) (.cons (.ret (.c (.bl false))) .nil) .nil) (.cons (.ret (.gen true (.tp [3, 4]) (.seq (.sli (.v 0) (.v 2) (.c .non))) .nil (.cmp .ge (.v 4) (.v 1)))) .nil))
def b_is_column : SL := (.cons (.ifs (.or (.un .not (.call none 1 (.cons (.v 0) .nil))) (.or (.un .not (.call none 3 (.cons (.idx (.v 0) (.c (.int 0))) .nil))) (.un .not (.isi (.idx (.v 0) (.c (.int 1))) [.tuple])))) (.cons (.ret (.c (.bl false))) .nil) .nil) (.cons (.unp [1, 2] (.v 0)) (.cons (.ifs (.un .not (.gen true (.nm 3) (.seq (.v 2)) .nil (.and (.call none 1 (.cons (.v 3) .nil)) (.and (.call none 4 (.cons (.idx (.v 3) (.c (.int 0))) .nil)) (.call none 0 (.cons (.idx (.v 3) (.c (.int 1))) (.cons (.c (.int 0)) (.cons (.pri .len (.cons (.v 1) .nil)) .nil)))))))) (.cons (.ret (.c (.bl false))) .nil) .nil) (.cons (.ifs (.gen false (.nm 4) (.rng (.c (.int 0)) (.bin .sub (.pri .len (.cons (.v 2) .nil)) (.c (.int 1)))) .nil (.cmp .ge (.idx (.idx (.v 2) (.v 4)) (.c (.int 0))) (.idx (.idx (.v 2) (.bin .add (.v 4) (.c (.int 1)))) (.c (.int 0))))) (.cons (.ret (.c (.bl false))) .nil) .nil) (.cons (.ret (.gen true (.tp [5, 6]) (.seq (.v 2)) .nil (.call none 6 (.cons (.v 1) (.cons (.v 5) (.cons (.v 6) .nil)))))) .nil)))))
def b_need_column : SL := (.cons (.ifs (.un .not (.call none 7 (.cons (.v 0) .nil))) (.cons (.rse 1 .nil) .nil) .nil) .nil)
def b_need_entries : SL := (.cons (.ifs (.un .not (.call none 3 (.cons (.v 0) .nil))) (.cons (.rse 5 .nil) .nil) .nil) .nil)
def b_need_manner : SL := (.cons (.ifs (.or (.un .not (.isi (.v 0) [.str])) (.cmp .notin (.v 0) (.c (.rol [(.str ⟨#[115, 116, 101, 97, 100, 121]⟩), (.str ⟨#[112, 117, 115, 104, 105, 110, 103]⟩), (.str ⟨#[115, 119, 97, 112, 112, 105, 110, 103]⟩)])))) (.cons (.rse 7 .nil) .nil) .nil) .nil)
def b_need_moving : SL := (.cons (.ifs (.or (.un .not (.isi (.v 0) [.str])) (.or (.cmp .notin (.v 0) (.c (.rol [(.str ⟨#[115, 116, 101, 97, 100, 121]⟩), (.str ⟨#[112, 117, 115, 104, 105, 110, 103]⟩), (.str ⟨#[115, 119, 97, 112, 112, 105, 110, 103]⟩)]))) (.cmp .eq (.v 0) (.c (.str ⟨#[115, 116, 101, 97, 100, 121]⟩))))) (.cons (.rse 7 .nil) .nil) .nil) .nil)
def b_need_end : SL := (.cons (.ifs (.or (.un .not (.call none 4 (.cons (.v 0) .nil))) (.cmp .lt (.v 0) (.v 1))) (.cons (.rse 3 .nil) .nil) .nil) .nil)
def b_need_ends : SL := (.cons (.ifs (.un .not (.call none 5 (.cons (.v 0) .nil))) (.cons (.rse 4 .nil) .nil) .nil) .nil)
def b_need_unlike : SL := (.cons (.exp (.call none 13 (.cons (.v 0) .nil))) (.cons (.ifs (.cmp .lt (.pri .len (.cons (.dc (.nm 1) (.seq (.v 0)) .nil (.v 1) (.c (.bl true))) .nil)) (.pri .len (.cons (.v 0) .nil))) (.cons (.rse 4 .nil) .nil) .nil) .nil))
def b_all_pieces : SL := (.cons (.unp [1, 2] (.v 0)) (.cons (.asg 3 (.bin .add (.bin .add (.lst (.cons (.c (.int 0)) .nil)) (.lc (.tp [4, 5]) (.seq (.v 2)) .nil (.v 5))) (.lst (.cons (.pri .len (.cons (.v 1) .nil)) .nil)))) (.cons (.ret (.lc (.nm 6) (.rng (.c (.int 0)) (.bin .sub (.pri .len (.cons (.v 3) .nil)) (.c (.int 1)))) .nil (.sli (.v 1) (.idx (.v 3) (.v 6)) (.idx (.v 3) (.bin .add (.v 6) (.c (.int 1))))))) .nil)))
def b_pieces : SL := (.cons (.exp (.call none 8 (.cons (.v 0) .nil))) (.cons (.ret (.pri .tuple (.cons (.call none 15 (.cons (.v 0) .nil)) .nil))) .nil))
def b_of_pieces : SL := (.cons (.par [(false, 2), (true, 3)] (.cons (.lst .nil) (.cons (.lst .nil) .nil))) (.cons (.for (.nm 4) (.seq (.v 0)) (.cons (.app 3 (.pri .len (.cons (.v 2) .nil))) (.cons (.asg 2 (.bin .add (.v 2) (.pri .list (.cons (.v 4) .nil)))) .nil))) (.cons (.exp .stk) .nil)))
def b_around : SL := (.cons (.unp [2, 3] (.v 0)) (.cons (.asg 4 (.pri .max (.cons (.bin .add (.lst (.cons (.c (.int 0)) .nil)) (.lc (.tp [5, 6]) (.seq (.v 3)) (.cons (.cmp .lt (.v 5) (.v 1)) .nil) (.v 6))) .nil))) (.cons (.asg 7 (.pri .min (.cons (.bin .add (.lst (.cons (.pri .len (.cons (.v 2) .nil)) .nil)) (.lc (.tp [5, 6]) (.seq (.v 3)) (.cons (.cmp .gt (.v 5) (.v 1)) .nil) (.v 6))) .nil))) (.cons (.ret (.tup (.cons (.v 4) (.cons (.v 7) .nil)))) .nil))))
def b_has_end : SL := (.cons (.ret (.gen false (.tp [2, 3]) (.seq (.idx (.v 0) (.c (.int 1)))) .nil (.cmp .eq (.v 2) (.v 1)))) .nil)
def b_pushing_swaps : SL := (.cons (.par [(true, 2), (true, 3), (false, 4)] (.cons (.pri .list (.cons (.v 0) .nil)) (.cons (.lst .nil) (.cons (.c (.int 0)) .nil)))) (.cons (.for (.nm 5) (.rng (.c (.int 0)) (.pri .len (.cons (.m 2) .nil))) (.cons (.ifs (.cmp .lt (.idx (.idx (.m 2) (.v 5)) (.c (.int 1))) (.v 1)) (.cons (.app 3 (.tup (.cons (.v 4) (.cons (.v 5) .nil)))) (.cons (.swp 2 (.v 4) (.v 5) (.idx (.m 2) (.v 5)) (.idx (.m 2) (.v 4))) (.cons (.asg 4 (.bin .add (.v 4) (.c (.int 1)))) .nil))) .nil) .nil)) (.cons (.rtf 3) .nil)))
def b_swapping_swaps : SL := (.cons (.par [(true, 2), (false, 3), (false, 4)] (.cons (.lst .nil) (.cons (.c (.int 0)) (.cons (.bin .sub (.pri .len (.cons (.v 0) .nil)) (.c (.int 1))) .nil)))) (.cons (.whl (.c (.bl true)) (.cons (.whl (.and (.cmp .le (.v 3) (.v 4)) (.cmp .lt (.idx (.idx (.v 0) (.v 3)) (.c (.int 1))) (.v 1))) (.cons (.asg 3 (.bin .add (.v 3) (.c (.int 1)))) .nil)) (.cons (.whl (.and (.cmp .le (.v 3) (.v 4)) (.cmp .ge (.idx (.idx (.v 0) (.v 4)) (.c (.int 1))) (.v 1))) (.cons (.asg 4 (.bin .sub (.v 4) (.c (.int 1)))) .nil)) (.cons (.ifs (.cmp .ge (.v 3) (.v 4)) (.cons (.rtf 2) .nil) .nil) (.cons (.app 2 (.tup (.cons (.v 3) (.cons (.v 4) .nil)))) (.cons (.par [(false, 3), (false, 4)] (.cons (.bin .add (.v 3) (.c (.int 1))) (.cons (.bin .sub (.v 4) (.c (.int 1))) .nil))) .nil)))))) .nil))
def b_all_swaps : SL := (.cons (.unp [3, 4] (.call none 18 (.cons (.v 0) (.cons (.v 2) .nil)))) (.cons (.asg 5 (.sli (.idx (.v 0) (.c (.int 0))) (.v 3) (.v 4))) (.cons (.asg 6 (.ife (.cmp .eq (.v 1) (.c (.str ⟨#[112, 117, 115, 104, 105, 110, 103]⟩))) (.call none 20 (.cons (.v 5) (.cons (.v 2) .nil))) (.call none 21 (.cons (.v 5) (.cons (.v 2) .nil))))) (.cons (.ret (.lc (.tp [7, 8]) (.seq (.v 6)) (.cons (.cmp .ne (.v 7) (.v 8)) .nil) (.tup (.cons (.bin .add (.v 3) (.v 7)) (.cons (.bin .add (.v 3) (.v 8)) .nil))))) .nil))))
def b_changed : SL := (.cons (.own 2 (.pri .list (.cons (.v 0) .nil))) (.cons (.for (.tp [3, 4]) (.seq (.v 1)) (.cons (.swp 2 (.v 3) (.v 4) (.idx (.m 2) (.v 4)) (.idx (.m 2) (.v 3))) .nil)) (.cons (.ret (.pri .tuple (.cons (.m 2) .nil))) .nil)))
def b_steady : SL := (.cons (.asg 2 (.idx (.v 0) (.c (.int 0)))) (.cons (.unp [3, 4] (.call none 18 (.cons (.v 0) (.cons (.v 1) .nil)))) (.cons (.asg 5 (.lc (.nm 6) (.seq (.sli (.v 2) (.v 3) (.v 4))) (.cons (.cmp .lt (.idx (.v 6) (.c (.int 1))) (.v 1)) .nil) (.v 6))) (.cons (.asg 7 (.lc (.nm 6) (.seq (.sli (.v 2) (.v 3) (.v 4))) (.cons (.cmp .ge (.idx (.v 6) (.c (.int 1))) (.v 1)) .nil) (.v 6))) (.cons (.ret (.tup (.star (.sli (.v 2) (.c .non) (.v 3)) (.star (.v 5) (.star (.v 7) (.star (.sli (.v 2) (.v 4) (.c .non)) .nil)))))) .nil)))))
def b_with_end : SL := (.cons (.asg 3 (.pri .len (.cons (.lc (.nm 4) (.seq (.v 1)) (.cons (.cmp .lt (.idx (.v 4) (.c (.int 1))) (.v 2)) .nil) (.v 4)) .nil))) (.cons (.ret (.tup (.cons (.v 1) (.cons (.pri .tuple (.cons (.pri .sorted (.cons (.lst (.star (.idx (.v 0) (.c (.int 1))) (.cons (.tup (.cons (.v 2) (.cons (.v 3) .nil))) .nil))) .nil)) .nil)) .nil)))) .nil))
def b_cut_at : SL := (.cons (.ifs (.call none 19 (.cons (.v 0) (.cons (.v 2) .nil))) (.cons (.ret (.v 0)) .nil) .nil) (.cons (.ifs (.cmp .eq (.v 1) (.c (.str ⟨#[115, 116, 101, 97, 100, 121]⟩))) (.cons (.ret (.call none 25 (.cons (.v 0) (.cons (.call none 24 (.cons (.v 0) (.cons (.v 2) .nil))) (.cons (.v 2) .nil))))) .nil) .nil) (.cons (.ret (.call none 25 (.cons (.v 0) (.cons (.call none 23 (.cons (.idx (.v 0) (.c (.int 0))) (.cons (.call none 22 (.cons (.v 0) (.cons (.v 1) (.cons (.v 2) .nil)))) .nil))) (.cons (.v 2) .nil))))) .nil)))
def b_cut : SL := (.cons (.exp (.call none 8 (.cons (.v 0) .nil))) (.cons (.exp (.call none 10 (.cons (.v 1) .nil))) (.cons (.exp (.call none 12 (.cons (.v 2) (.cons (.bin .sub (.c (.int 0)) (.c (.int 1000000))) .nil)))) (.cons (.ret (.call none 26 (.cons (.v 0) (.cons (.v 1) (.cons (.v 2) .nil))))) .nil))))
def b_cut_row : SL := (.cons (.for (.nm 3) (.seq (.v 2)) (.cons (.asg 0 (.call none 26 (.cons (.v 0) (.cons (.v 1) (.cons (.v 3) .nil))))) .nil)) (.cons (.ret (.v 0)) .nil))
def b_cut_all : SL := (.cons (.exp (.call none 8 (.cons (.v 0) .nil))) (.cons (.exp (.call none 10 (.cons (.v 1) .nil))) (.cons (.exp (.call none 13 (.cons (.v 2) .nil))) (.cons (.ret (.call none 28 (.cons (.v 0) (.cons (.v 1) (.cons (.v 2) .nil))))) .nil))))
def b_looks : SL := (.cons (.exp (.call none 8 (.cons (.v 0) .nil))) (.cons (.exp (.call none 13 (.cons (.v 1) .nil))) (.cons (.asg 2 (.c (.int 0))) (.cons (.for (.nm 3) (.seq (.v 1)) (.cons (.ifs (.un .not (.call none 19 (.cons (.v 0) (.cons (.v 3) .nil)))) (.cons (.unp [4, 5] (.call none 18 (.cons (.v 0) (.cons (.v 3) .nil)))) (.cons (.asg 2 (.bin .sub (.bin .add (.v 2) (.v 5)) (.v 4))) (.cons (.asg 0 (.call none 26 (.cons (.v 0) (.cons (.c (.str ⟨#[115, 116, 101, 97, 100, 121]⟩)) (.cons (.v 3) .nil))))) .nil))) .nil) .nil)) (.cons (.ret (.v 2)) .nil)))))
def b_stretch : SL := (.cons (.asg 3 (.pri .dict (.cons (.idx (.v 0) (.c (.int 1))) .nil))) (.cons (.ret (.pri .tuple (.cons (.lc (.tp [4, 5]) (.seq (.sli (.idx (.v 0) (.c (.int 0))) (.idx (.v 3) (.v 1)) (.idx (.v 3) (.v 2)))) .nil (.v 4)) .nil))) .nil))
def b_need_question : SL := (.cons (.exp (.call none 12 (.cons (.v 0) (.cons (.bin .sub (.c (.int 0)) (.c (.int 1000000))) .nil)))) (.cons (.exp (.call none 12 (.cons (.v 1) (.cons (.v 0) .nil)))) .nil))
def b_asked : SL := (.cons (.exp (.call none 8 (.cons (.v 0) .nil))) (.cons (.exp (.call none 10 (.cons (.v 1) .nil))) (.cons (.exp (.call none 32 (.cons (.v 2) (.cons (.v 3) .nil)))) (.cons (.asg 0 (.call none 28 (.cons (.v 0) (.cons (.v 1) (.cons (.lst (.cons (.v 2) (.cons (.v 3) .nil))) .nil))))) (.cons (.ret (.tup (.cons (.v 0) (.cons (.call none 31 (.cons (.v 0) (.cons (.v 2) (.cons (.v 3) .nil)))) .nil)))) .nil)))))
def b_plain_answer : SL := (.cons (.exp (.call none 8 (.cons (.v 0) .nil))) (.cons (.exp (.call none 32 (.cons (.v 1) (.cons (.v 2) .nil)))) (.cons (.ret (.pri .tuple (.cons (.pri .sorted (.cons (.lc (.tp [3, 4]) (.seq (.idx (.v 0) (.c (.int 0)))) (.cons (.chn .le .lt (.v 1) (.v 4) (.v 2)) .nil) (.v 3)) .nil)) .nil))) .nil)))
def b_grown : SL := (.cons (.ifs (.cmp .is (.v 0) (.c .non)) (.cons (.ret (.tup (.cons (.v 1) (.cons (.c .non) (.cons (.c .non) .nil))))) .nil) .nil) (.cons (.ifs (.cmp .lt (.v 1) (.idx (.v 0) (.c (.int 0)))) (.cons (.ret (.tup (.cons (.idx (.v 0) (.c (.int 0))) (.cons (.call none 35 (.cons (.idx (.v 0) (.c (.int 1))) (.cons (.v 1) .nil))) (.cons (.idx (.v 0) (.c (.int 2))) .nil))))) .nil) .nil) (.cons (.ret (.ife (.cmp .gt (.v 1) (.idx (.v 0) (.c (.int 0)))) (.tup (.cons (.idx (.v 0) (.c (.int 0))) (.cons (.idx (.v 0) (.c (.int 1))) (.cons (.call none 35 (.cons (.idx (.v 0) (.c (.int 2))) (.cons (.v 1) .nil))) .nil)))) (.v 0))) .nil)))
def b_built : SL := (.cons (.asg 1 (.c .non)) (.cons (.for (.nm 2) (.seq (.v 0)) (.cons (.asg 1 (.call none 35 (.cons (.v 1) (.cons (.v 2) .nil)))) .nil)) (.cons (.ret (.v 1)) .nil)))
def b_in_order : SL := (.cons (.ret (.ife (.cmp .is (.v 0) (.c .non)) (.lst .nil) (.lst (.star (.call none 37 (.cons (.idx (.v 0) (.c (.int 1))) .nil)) (.cons (.idx (.v 0) (.c (.int 0))) (.star (.call none 37 (.cons (.idx (.v 0) (.c (.int 2))) .nil)) .nil)))))) .nil)
def b_ahead : SL := (.cons (.ret (.ife (.cmp .is (.v 0) (.c .non)) (.lst .nil) (.lst (.cons (.idx (.v 0) (.c (.int 0))) (.star (.call none 38 (.cons (.idx (.v 0) (.c (.int 1))) .nil)) (.star (.call none 38 (.cons (.idx (.v 0) (.c (.int 2))) .nil)) .nil)))))) .nil)
def b_has_form : SL := (.cons (.ifs (.cmp .is (.v 0) (.c .non)) (.cons (.ret (.c (.bl true))) .nil) .nil) (.cons (.ifs (.or (.cmp .eq (.v 1) (.c (.int 0))) (.or (.un .not (.isi (.v 0) [.tuple])) (.or (.cmp .ne (.pri .len (.cons (.v 0) .nil)) (.c (.int 3))) (.un .not (.call none 4 (.cons (.idx (.v 0) (.c (.int 0))) .nil)))))) (.cons (.ret (.c (.bl false))) .nil) .nil) (.cons (.ret (.and (.call none 39 (.cons (.idx (.v 0) (.c (.int 1))) (.cons (.bin .sub (.v 1) (.c (.int 1))) .nil))) (.call none 39 (.cons (.idx (.v 0) (.c (.int 2))) (.cons (.bin .sub (.v 1) (.c (.int 1))) .nil))))) .nil)))
def b_is_tree : SL := (.cons (.ifs (.un .not (.call none 39 (.cons (.v 0) (.cons (.c (.int 60)) .nil)))) (.cons (.ret (.c (.bl false))) .nil) .nil) (.cons (.asg 1 (.call none 37 (.cons (.v 0) .nil))) (.cons (.ret (.and (.cmp .le (.pri .len (.cons (.v 1) .nil)) (.c (.int 60))) (.gen true (.nm 2) (.rng (.c (.int 0)) (.bin .sub (.pri .len (.cons (.v 1) .nil)) (.c (.int 1)))) .nil (.cmp .lt (.idx (.v 1) (.v 2)) (.idx (.v 1) (.bin .add (.v 2) (.c (.int 1)))))))) .nil)))
def b_need_tree : SL := (.cons (.ifs (.un .not (.call none 40 (.cons (.v 0) .nil))) (.cons (.rse 9 .nil) .nil) .nil) .nil)
def b_need_two : SL := (.cons (.exp (.call none 10 (.cons (.v 0) .nil))) (.cons (.exp (.call none 13 (.cons (.v 1) .nil))) (.cons (.exp (.call none 13 (.cons (.v 2) .nil))) .nil)))
def b_is_alike : SL := (.cons (.ret (.ife (.cmp .eq (.v 0) (.c (.str ⟨#[115, 116, 101, 97, 100, 121]⟩))) (.pri .seq (.cons (.v 1) (.cons (.v 2) .nil))) (.cmp .eq (.call none 36 (.cons (.v 1) .nil)) (.call none 36 (.cons (.v 2) .nil))))) .nil)
def b_alike : SL := (.cons (.exp (.call none 42 (.cons (.v 0) (.cons (.v 1) (.cons (.v 2) .nil))))) (.cons (.ret (.call none 43 (.cons (.v 0) (.cons (.v 1) (.cons (.v 2) .nil))))) .nil))
def b_shows_parting : SL := (.cons (.exp (.call none 42 (.cons (.v 0) (.cons (.v 1) (.cons (.v 2) .nil))))) (.cons (.ifs (.or (.cmp .is (.v 3) (.c .non)) (.call none 43 (.cons (.v 0) (.cons (.v 1) (.cons (.v 2) .nil))))) (.cons (.ret (.and (.cmp .is (.v 3) (.c .non)) (.call none 43 (.cons (.v 0) (.cons (.v 1) (.cons (.v 2) .nil)))))) .nil) .nil) (.cons (.ifs (.or (.un .not (.call none 3 (.cons (.v 3) .nil))) (.cmp .ne (.pri .len (.cons (.v 3) .nil)) (.ife (.pri .sne (.cons (.v 1) (.cons (.v 2) .nil))) (.c (.int 0)) (.c (.int 4))))) (.cons (.ret (.c (.bl false))) .nil) .nil) (.cons (.ret (.cmp .ne (.call none 28 (.cons (.tup (.cons (.v 3) (.cons (.tup .nil) .nil))) (.cons (.v 0) (.cons (.v 1) .nil)))) (.call none 28 (.cons (.tup (.cons (.v 3) (.cons (.tup .nil) .nil))) (.cons (.v 0) (.cons (.v 2) .nil)))))) .nil))))
def b_need_rows : SL := (.cons (.exp (.call none 14 (.cons (.v 0) .nil))) (.cons (.exp (.call none 14 (.cons (.v 1) .nil))) .nil))
def b_exchanged : SL := (.cons (.ret (.tup (.star (.sli (.v 0) (.c .non) (.v 1)) (.cons (.idx (.v 0) (.bin .add (.v 1) (.c (.int 1)))) (.cons (.idx (.v 0) (.v 1)) (.star (.sli (.v 0) (.bin .add (.v 1) (.c (.int 2))) (.c .non)) .nil)))))) .nil)
def b_all_exchanges : SL := (.cons (.asg 2 (.dc (.tp [3, 4]) (.enm (.v 1)) .nil (.v 4) (.v 3))) (.cons (.par [(true, 5), (true, 6)] (.cons (.pri .list (.cons (.v 0) .nil)) (.cons (.lst .nil) .nil))) (.cons (.for (.nm 7) (.rng3 (.pri .len (.cons (.m 5) .nil)) (.c (.int 1)) (.un .neg (.c (.int 1)))) (.cons (.for (.nm 8) (.rng (.c (.int 0)) (.bin .sub (.v 7) (.c (.int 1)))) (.cons (.ifs (.cmp .gt (.idx (.v 2) (.idx (.m 5) (.v 8))) (.idx (.v 2) (.idx (.m 5) (.bin .add (.v 8) (.c (.int 1)))))) (.cons (.swp 5 (.v 8) (.bin .add (.v 8) (.c (.int 1))) (.idx (.m 5) (.bin .add (.v 8) (.c (.int 1)))) (.idx (.m 5) (.v 8))) (.cons (.app 6 (.v 8)) .nil)) .nil) .nil)) .nil)) (.cons (.rtf 6) .nil))))
def b_exchanges : SL := (.cons (.exp (.call none 46 (.cons (.v 0) (.cons (.v 1) .nil)))) (.cons (.ret (.ife (.cmp .eq (.call none 36 (.cons (.v 0) .nil)) (.call none 36 (.cons (.v 1) .nil))) (.pri .tuple (.cons (.call none 48 (.cons (.v 0) (.cons (.v 1) .nil))) .nil)) (.c .non))) .nil))
def b_shows_exchanges : SL := (.cons (.exp (.call none 46 (.cons (.v 0) (.cons (.v 1) .nil)))) (.cons (.asg 3 (.call none 36 (.cons (.v 0) .nil))) (.cons (.ifs (.or (.cmp .is (.v 2) (.c .non)) (.cmp .ne (.v 3) (.call none 36 (.cons (.v 1) .nil)))) (.cons (.ret (.and (.cmp .is (.v 2) (.c .non)) (.cmp .ne (.v 3) (.call none 36 (.cons (.v 1) .nil))))) .nil) .nil) (.cons (.ifs (.or (.un .not (.isi (.v 2) [.tuple])) (.cmp .ne (.pri .len (.cons (.v 2) .nil)) (.pri .len (.cons (.call none 48 (.cons (.v 0) (.cons (.v 1) .nil))) .nil)))) (.cons (.ret (.c (.bl false))) .nil) .nil) (.cons (.asg 4 (.v 0)) (.cons (.for (.nm 5) (.seq (.v 2)) (.cons (.ifs (.or (.un .not (.call none 0 (.cons (.v 5) (.cons (.c (.int 0)) (.cons (.bin .sub (.pri .len (.cons (.v 4) .nil)) (.c (.int 2))) .nil))))) (.cmp .ne (.call none 36 (.cons (.call none 47 (.cons (.v 4) (.cons (.v 5) .nil))) .nil)) (.v 3))) (.cons (.ret (.c (.bl false))) .nil) .nil) (.cons (.asg 4 (.call none 47 (.cons (.v 4) (.cons (.v 5) .nil)))) .nil))) (.cons (.ret (.cmp .eq (.v 4) (.v 1))) .nil)))))))
def b_joined : SL := (.cons (.ifs (.or (.cmp .is (.v 0) (.c .non)) (.cmp .is (.v 1) (.c .non))) (.cons (.ret (.tup (.cons (.c (.bl true)) (.cons (.ife (.cmp .is (.v 1) (.c .non)) (.v 0) (.v 1)) .nil)))) .nil) .nil) (.cons (.ifs (.cmp .ne (.idx (.v 0) (.c (.int 0))) (.idx (.v 1) (.c (.int 0)))) (.cons (.ret (.tup (.cons (.c (.bl false)) (.cons (.c .non) .nil)))) .nil) .nil) (.cons (.unp [2, 3] (.call none 51 (.cons (.idx (.v 0) (.c (.int 1))) (.cons (.idx (.v 1) (.c (.int 1))) .nil)))) (.cons (.unp [4, 5] (.call none 51 (.cons (.idx (.v 0) (.c (.int 2))) (.cons (.idx (.v 1) (.c (.int 2))) .nil)))) (.cons (.ret (.tup (.cons (.and (.v 2) (.v 4)) (.cons (.tup (.cons (.idx (.v 0) (.c (.int 0))) (.cons (.v 3) (.cons (.v 5) .nil)))) .nil)))) .nil)))))
def b_joined_tree : SL := (.cons (.exp (.call none 13 (.cons (.v 0) .nil))) (.cons (.exp (.call none 13 (.cons (.v 1) .nil))) (.cons (.unp [2, 3] (.call none 51 (.cons (.call none 36 (.cons (.v 0) .nil)) (.cons (.call none 36 (.cons (.v 1) .nil)) .nil)))) (.cons (.ret (.ife (.v 2) (.tup (.cons (.v 3) .nil)) (.c .non))) .nil))))
def b_replays : SL := (.cons (.exp (.call none 42 (.cons (.v 0) (.cons (.v 1) (.cons (.v 2) .nil))))) (.cons (.ifs (.cmp .eq (.v 0) (.c (.str ⟨#[115, 116, 101, 97, 100, 121]⟩))) (.cons (.asg 3 (.pri .sorted (.cons (.dc (.nm 4) (.seq (.tup (.star (.v 1) (.star (.v 2) .nil)))) .nil (.v 4) (.c (.bl true))) .nil))) .nil) (.cons (.unp [5, 6] (.call none 51 (.cons (.call none 36 (.cons (.v 1) .nil)) (.cons (.call none 36 (.cons (.v 2) .nil)) .nil)))) (.cons (.ifs (.un .not (.v 5)) (.cons (.ret (.c .non)) .nil) .nil) (.cons (.asg 3 (.call none 38 (.cons (.v 6) .nil))) .nil)))) (.cons (.ret (.tup (.cons (.pri .tuple (.cons (.lc (.nm 4) (.seq (.v 3)) (.cons (.cmp .notin (.v 4) (.v 1)) .nil) (.v 4)) .nil)) (.cons (.pri .tuple (.cons (.lc (.nm 4) (.seq (.v 3)) (.cons (.cmp .notin (.v 4) (.v 2)) .nil) (.v 4)) .nil)) .nil)))) .nil)))
def b_swaps_of : SL := (.cons (.ret (.ife (.call none 19 (.cons (.v 0) (.cons (.v 2) .nil))) (.lst .nil) (.call none 22 (.cons (.v 0) (.cons (.v 1) (.cons (.v 2) .nil)))))) .nil)
def b_need_cut : SL := (.cons (.exp (.call none 8 (.cons (.v 0) .nil))) (.cons (.exp (.call none 11 (.cons (.v 1) .nil))) (.cons (.exp (.call none 12 (.cons (.v 2) (.cons (.bin .sub (.c (.int 0)) (.c (.int 1000000))) .nil)))) .nil)))
def b_swaps : SL := (.cons (.exp (.call none 55 (.cons (.v 0) (.cons (.v 1) (.cons (.v 2) .nil))))) (.cons (.ret (.pri .tuple (.cons (.call none 54 (.cons (.v 0) (.cons (.v 1) (.cons (.v 2) .nil)))) .nil))) .nil))
def b_broken : SL := (.cons (.exp (.call none 55 (.cons (.v 0) (.cons (.v 1) (.cons (.v 2) .nil))))) (.cons (.ifs (.un .not (.call none 0 (.cons (.v 3) (.cons (.c (.int 0)) (.cons (.c (.int 1000)) .nil))))) (.cons (.rse 8 .nil) .nil) .nil) (.cons (.ret (.tup (.cons (.call none 23 (.cons (.idx (.v 0) (.c (.int 0))) (.cons (.sli (.call none 54 (.cons (.v 0) (.cons (.v 1) (.cons (.v 2) .nil)))) (.c .non) (.v 3)) .nil))) (.cons (.idx (.v 0) (.c (.int 1))) .nil)))) .nil)))
def b_need_counts : SL := (.cons (.ifs (.or (.un .not (.isi (.v 0) [.tuple])) (.un .not (.chn .le .le (.c (.int 1)) (.pri .len (.cons (.v 0) .nil)) (.c (.int 31))))) (.cons (.rse 2 .nil) .nil) .nil) (.cons (.ifs (.un .not (.gen true (.nm 1) (.seq (.v 0)) .nil (.call none 0 (.cons (.v 1) (.cons (.c (.int 0)) (.cons (.c (.int 1000000000000)) .nil)))))) (.cons (.rse 2 .nil) .nil) .nil) .nil))
def b_sum_looks : SL := (.cons (.ifs (.cmp .is (.v 1) (.c .non)) (.cons (.ret (.c (.int 0))) .nil) .nil) (.cons (.asg 2 (.bin .add (.pri .len (.cons (.call none 37 (.cons (.idx (.v 1) (.c (.int 1))) .nil)) .nil)) (.c (.int 1)))) (.cons (.ret (.bin .add (.bin .add (.pri .sum (.cons (.v 0) .nil)) (.call none 59 (.cons (.sli (.v 0) (.c .non) (.v 2)) (.cons (.idx (.v 1) (.c (.int 1))) .nil)))) (.call none 59 (.cons (.sli (.v 0) (.v 2) (.c .non)) (.cons (.idx (.v 1) (.c (.int 2))) .nil))))) .nil)))
def b_tree_looks : SL := (.cons (.exp (.call none 58 (.cons (.v 0) .nil))) (.cons (.ifs (.or (.un .not (.call none 40 (.cons (.v 1) .nil))) (.cmp .ne (.call none 37 (.cons (.v 1) .nil)) (.pri .lrg (.cons (.bin .sub (.pri .len (.cons (.v 0) .nil)) (.c (.int 1))) .nil)))) (.cons (.rse 9 .nil) .nil) .nil) (.cons (.ret (.call none 59 (.cons (.v 0) (.cons (.v 1) .nil)))) .nil)))
def b_all_looks : SL := (.cons (.own 2 (.dc (.nm 3) (.rng (.c (.int 0)) (.pri .len (.cons (.v 0) .nil))) .nil (.tup (.cons (.v 3) (.cons (.v 3) .nil))) (.tup (.cons (.c (.int 0)) (.cons (.c .non) .nil))))) (.cons (.for (.nm 4) (.rng (.c (.int 1)) (.pri .len (.cons (.v 0) .nil))) (.cons (.for (.nm 5) (.rng (.c (.int 0)) (.bin .sub (.pri .len (.cons (.v 0) .nil)) (.v 4))) (.cons (.asg 6 (.bin .add (.v 5) (.v 4))) (.cons (.asg 7 (.pri .sum (.cons (.sli (.v 0) (.v 5) (.bin .add (.v 6) (.c (.int 1)))) .nil))) (.cons (.asg 8 (.c .non)) (.cons (.for (.nm 9) (.rng (.v 5) (.v 6)) (.cons (.asg 10 (.bin .add (.bin .add (.v 7) (.idx (.idx (.m 2) (.tup (.cons (.v 5) (.cons (.v 9) .nil)))) (.c (.int 0)))) (.idx (.idx (.m 2) (.tup (.cons (.bin .add (.v 9) (.c (.int 1))) (.cons (.v 6) .nil)))) (.c (.int 0))))) (.cons (.ifs (.or (.cmp .is (.v 8) (.c .non)) (.cmp .lt (.bin .mul (.v 1) (.v 10)) (.bin .mul (.v 1) (.idx (.v 8) (.c (.int 0)))))) (.cons (.asg 8 (.tup (.cons (.v 10) (.cons (.v 9) .nil)))) .nil) .nil) .nil))) (.cons (.sti 2 (.tup (.cons (.v 5) (.cons (.v 6) .nil))) (.v 8)) .nil)))))) .nil)) (.cons (.rtf 2) .nil)))
def b_least_looks : SL := (.cons (.exp (.call none 58 (.cons (.v 0) .nil))) (.cons (.ret (.idx (.idx (.call none 61 (.cons (.v 0) (.cons (.c (.int 1)) .nil))) (.tup (.cons (.c (.int 0)) (.cons (.bin .sub (.pri .len (.cons (.v 0) .nil)) (.c (.int 1))) .nil)))) (.c (.int 0)))) .nil))
def b_is_table : SL := (.cons (.asg 2 (.pri .len (.cons (.v 0) .nil))) (.cons (.ifs (.or (.un .not (.isi (.v 1) [.tuple])) (.cmp .ne (.pri .len (.cons (.v 1) .nil)) (.v 2))) (.cons (.ret (.c (.bl false))) .nil) .nil) (.cons (.for (.tp [3, 4]) (.enm (.v 1)) (.cons (.ifs (.or (.un .not (.isi (.v 4) [.tuple])) (.cmp .ne (.pri .len (.cons (.v 4) .nil)) (.bin .sub (.v 2) (.v 3)))) (.cons (.ret (.c (.bl false))) .nil) .nil) (.cons (.ifs (.or (.un .not (.gen true (.nm 5) (.seq (.v 4)) .nil (.and (.isi (.v 5) [.int]) (.un .not (.isi (.v 5) [.bool]))))) (.cmp .ne (.idx (.v 4) (.c (.int 0))) (.c (.int 0)))) (.cons (.ret (.c (.bl false))) .nil) .nil) .nil))) (.cons (.ret (.c (.bl true))) .nil))))
def b_shows_below : SL := (.cons (.exp (.call none 58 (.cons (.v 0) .nil))) (.cons (.ifs (.un .not (.call none 63 (.cons (.v 0) (.cons (.v 1) .nil)))) (.cons (.ret (.c (.bl false))) .nil) .nil) (.cons (.for (.nm 2) (.rng (.c (.int 0)) (.pri .len (.cons (.v 0) .nil))) (.cons (.for (.nm 3) (.rng (.bin .add (.v 2) (.c (.int 1))) (.pri .len (.cons (.v 0) .nil))) (.cons (.par [(false, 4), (false, 5)] (.cons (.pri .sum (.cons (.sli (.v 0) (.v 2) (.bin .add (.v 3) (.c (.int 1)))) .nil)) (.cons (.idx (.idx (.v 1) (.v 2)) (.bin .sub (.v 3) (.v 2))) .nil))) (.cons (.for (.nm 6) (.rng (.v 2) (.v 3)) (.cons (.ifs (.cmp .gt (.v 5) (.bin .add (.bin .add (.v 4) (.idx (.idx (.v 1) (.v 2)) (.bin .sub (.v 6) (.v 2)))) (.idx (.idx (.v 1) (.bin .add (.v 6) (.c (.int 1)))) (.bin .sub (.bin .sub (.v 3) (.v 6)) (.c (.int 1)))))) (.cons (.ret (.c (.bl false))) .nil) .nil) .nil)) .nil))) .nil)) (.cons (.ret (.cmp .eq (.idx (.idx (.v 1) (.c (.int 0))) (.un .neg (.c (.int 1)))) (.call none 62 (.cons (.v 0) .nil)))) .nil))))
def b_sizes : SL := (.cons (.ifs (.cmp .is (.v 0) (.c .non)) (.cons (.ret (.c (.int 1))) .nil) .nil) (.cons (.ret (.bin .mul (.bin .mul (.pri .len (.cons (.call none 37 (.cons (.v 0) .nil)) .nil)) (.call none 65 (.cons (.idx (.v 0) (.c (.int 1))) .nil))) (.call none 65 (.cons (.idx (.v 0) (.c (.int 2))) .nil)))) .nil))
def b_forest_count : SL := (.cons (.par [(false, 1), (false, 2)] (.cons (.c (.int 0)) (.cons (.c (.int 1)) .nil))) (.cons (.for (.nm 3) (.seq (.v 0)) (.cons (.par [(false, 1), (false, 2)] (.cons (.bin .add (.v 1) (.pri .len (.cons (.call none 37 (.cons (.v 3) .nil)) .nil))) (.cons (.bin .mul (.v 2) (.call none 65 (.cons (.v 3) .nil))) .nil))) .nil)) (.cons (.ret (.bin .fdv (.pri .fct (.cons (.v 1) .nil)) (.v 2))) .nil)))
def b_without : SL := (.cons (.asg 2 (.lc (.nm 3) (.seq (.v 0)) (.cons (.cmp .ne (.idx (.v 3) (.c (.int 0))) (.idx (.v 1) (.c (.int 0)))) .nil) (.v 3))) (.cons (.ret (.bin .add (.v 2) (.lc (.nm 3) (.seq (.sli (.v 1) (.c (.int 1)) (.c .non))) (.cons (.cmp .isnot (.v 3) (.c .non)) .nil) (.v 3)))) .nil))
def b_tops : SL := (.cons (.ret (.lc (.tp [1, 2]) (.seq (.pri .srk (.cons (.lc (.nm 2) (.seq (.v 0)) .nil (.tup (.cons (.idx (.v 2) (.c (.int 0))) (.cons (.v 2) .nil)))) .nil))) .nil (.v 2))) .nil)
def b_first_of : SL := (.cons (.ret (.idx (.v 0) (.c (.int 0)))) .nil)
def b_order_at : SL := (.cons (.exp (.call none 41 (.cons (.v 0) .nil))) (.cons (.ifs (.un .not (.call none 0 (.cons (.v 1) (.cons (.c (.int 0)) (.cons (.bin .sub (.call none 66 (.cons (.lst (.cons (.v 0) .nil)) .nil)) (.c (.int 1))) .nil))))) (.cons (.rse 8 .nil) .nil) .nil) (.cons (.par [(false, 2), (true, 3)] (.cons (.ife (.cmp .is (.v 0) (.c .non)) (.lst .nil) (.lst (.cons (.v 0) .nil))) (.cons (.lst .nil) .nil))) (.cons (.whl (.v 2) (.cons (.for (.nm 4) (.seq (.call none 68 (.cons (.v 2) .nil))) (.cons (.asg 5 (.call none 66 (.cons (.call none 67 (.cons (.v 2) (.cons (.v 4) .nil))) .nil))) (.cons (.ifs (.cmp .lt (.v 1) (.v 5)) (.cons .brk .nil) .nil) (.cons (.asg 1 (.bin .sub (.v 1) (.v 5))) .nil)))) (.cons (.app 3 (.idx (.v 4) (.c (.int 0)))) (.cons (.asg 2 (.call none 67 (.cons (.v 2) (.cons (.v 4) .nil)))) .nil)))) (.cons (.ret (.pri .tuple (.cons (.m 3) .nil))) .nil)))))
def b_tree_count : SL := (.cons (.exp (.call none 58 (.cons (.v 0) .nil))) (.cons (.ifs (.un .not (.call none 0 (.cons (.v 1) (.cons (.c (.int 0)) (.cons (.c (.int 1000000000000000)) .nil))))) (.cons (.rse 8 .nil) .nil) .nil) (.cons (.ifs (.cmp .gt (.pri .len (.cons (.v 0) .nil)) (.c (.int 11))) (.cons (.rse 11 (.cons (.c (.int 11)) .nil)) .nil) .nil) (.cons (.exp .stk) (.cons (.for (.nm 4) (.rng (.c (.int 1)) (.pri .len (.cons (.v 0) .nil))) (.cons (.for (.nm 5) (.rng (.c (.int 0)) (.bin .sub (.pri .len (.cons (.v 0) .nil)) (.v 4))) (.cons (.exp .stk) .nil)) .nil)) (.cons (.exp .stk) .nil))))))
def b_spread : SL := (.cons (.par [(false, 4), (true, 5)] (.cons (.pri .sum (.cons (.sli (.v 0) (.v 2) (.bin .add (.v 3) (.c (.int 1)))) .nil)) (.cons (.pri .dict (.cons (.tup .nil) .nil)) .nil))) (.cons (.for (.nm 6) (.rng (.v 2) (.v 3)) (.cons (.exp .stk) .nil)) (.cons (.rtf 5) .nil)))
def b_all_done : SL := (.cons (.ifs (.or (.un .not (.isi (.v 2) [.tuple])) (.cmp .gt (.pri .len (.cons (.v 2) .nil)) (.c (.int 200)))) (.cons (.rse 0 (.cons (.c .non) .nil)) .nil) .nil) (.cons (.exp .stk) (.cons (.for (.tp [4, 5]) (.enm (.v 2)) (.cons (.exp .stk) (.cons (.exp .stk) .nil))) (.cons (.ret (.v 3)) .nil))))
def b_worked : SL := (.cons (.exp (.call none 9 (.cons (.v 0) .nil))) (.cons (.exp (.call none 10 (.cons (.v 1) .nil))) (.cons (.asg 3 (.call none 73 (.cons (.v 0) (.cons (.v 1) (.cons (.v 2) .nil))))) (.cons (.exp .stk) .nil))))
def b_moves : SL := (.cons (.exp (.call none 9 (.cons (.v 0) .nil))) (.cons (.exp (.call none 10 (.cons (.v 1) .nil))) (.cons (.exp .stk) .nil)))
def b_is_hand : SL := (.cons (.ret (.and (.isi (.v 0) [.tuple]) (.and (.cmp .le (.pri .len (.cons (.v 0) .nil)) (.c (.int 10))) (.gen true (.nm 1) (.seq (.v 0)) .nil (.call none 4 (.cons (.v 1) .nil)))))) .nil)
def b_all_woven : SL := (.cons (.exp (.call none 8 (.cons (.v 0) .nil))) (.cons (.exp (.call none 11 (.cons (.v 1) .nil))) (.cons (.ifs (.or (.un .not (.isi (.v 2) [.tuple])) (.or (.un .not (.chn .le .le (.c (.int 1)) (.pri .len (.cons (.v 2) .nil)) (.c (.int 4)))) (.un .not (.gen true (.nm 4) (.seq (.v 2)) .nil (.call none 76 (.cons (.v 4) .nil)))))) (.cons (.rse 6 .nil) .nil) .nil) (.cons (.ifs (.or (.un .not (.isi (.v 3) [.tuple])) (.cmp .gt (.pri .len (.cons (.v 3) .nil)) (.c (.int 400)))) (.cons (.rse 10 (.cons (.c .non) .nil)) .nil) .nil) (.cons (.for (.tp [5, 6]) (.enm (.v 3)) (.cons (.ifs (.un .not (.call none 0 (.cons (.v 6) (.cons (.c (.int 0)) (.cons (.bin .sub (.pri .len (.cons (.v 2) .nil)) (.c (.int 1))) .nil))))) (.cons (.rse 10 (.cons (.v 5) .nil)) .nil) .nil) .nil)) (.cons (.exp .stk) (.cons (.for (.nm 6) (.seq (.v 3)) (.cons (.exp .stk) .nil)) (.cons (.ret (.v 7)) .nil))))))))
def b_woven : SL := (.cons (.asg 4 (.call none 77 (.cons (.v 0) (.cons (.v 1) (.cons (.v 2) (.cons (.v 3) .nil)))))) (.cons (.exp .stk) .nil))
def b_finished : SL := (.cons (.asg 4 (.call none 77 (.cons (.v 0) (.cons (.v 1) (.cons (.v 2) (.cons (.v 3) .nil)))))) (.cons (.exp .stk) (.cons (.exp .stk) .nil)))
def b__law_taken : SL := (.cons (.ifs (.cmp .gt (.idx (.m 0) (.c (.int 3))) (.c (.int 0))) (.cons (.asg 2 (.bin .mod (.pri .int (.cons (.idx (.m 0) (.c (.int 3))) .nil)) (.v 1))) (.cons (.sti 0 (.c (.int 3)) (.bin .fdv (.idx (.m 0) (.c (.int 3))) (.v 1))) (.cons (.ret (.v 2)) .nil))) .nil) (.cons (.sti 0 (.c (.int 1)) (.bin .add (.idx (.m 0) (.c (.int 1))) (.c (.int 1)))) (.cons (.ifs (.cmp .gt (.idx (.m 0) (.c (.int 1))) (.pri .len (.cons (.idx (.m 0) (.c (.int 0))) .nil))) (.cons (.sti 0 (.c (.int 2)) (.bin .mod (.pri .int (.cons (.bin .add (.bin .mul (.idx (.m 0) (.c (.int 2))) (.c (.int 48271))) (.c (.int 11))) .nil)) (.c (.int 2147483647)))) (.cons (.ret (.bin .mod (.pri .int (.cons (.bin .fdv (.idx (.m 0) (.c (.int 2))) (.c (.int 7))) .nil)) (.v 1))) .nil)) .nil) (.cons (.asg 3 (.idx (.idx (.m 0) (.c (.int 0))) (.bin .sub (.idx (.m 0) (.c (.int 1))) (.c (.int 1))))) (.cons (.sti 0 (.c (.int 2)) (.bin .mod (.pri .int (.cons (.bin .add (.bin .add (.bin .mul (.idx (.m 0) (.c (.int 2))) (.c (.int 48271))) (.v 3)) (.c (.int 11))) .nil)) (.c (.int 2147483647)))) (.cons (.ifs (.cmp .ge (.v 3) (.bin .pow (.c (.int 10)) (.c (.int 18)))) (.cons (.sti 0 (.c (.int 3)) (.bin .fdv (.v 3) (.v 1))) .nil) .nil) (.cons (.ret (.bin .mod (.pri .int (.cons (.v 3) .nil)) (.v 1))) .nil)))))))
def b__law_pick : SL := (.cons (.ret (.idx (.v 1) (.call (some 0) 80 (.ref 0 (.cons (.pri .len (.cons (.v 1) .nil)) .nil))))) .nil)
def b_law : SL := (.cons (.own 1 (.lst (.cons (.v 0) (.cons (.c (.int 0)) (.cons (.c (.int 14422)) (.cons (.c (.int 0)) .nil)))))) (.cons (.asg 2 (.call (some 1) 80 (.ref 1 (.cons (.c (.int 9)) .nil)))) (.cons (.asg 3 (.tup (.cons (.tup (.cons (.tup (.cons (.c (.int 0)) (.cons (.c (.int 5)) .nil))) (.cons (.tup (.cons (.c (.int 1)) (.cons (.c (.int 2)) .nil))) .nil))) (.cons (.tup .nil) .nil)))) (.cons (.own 4 (.lst (.cons (.tld false [(⟨#[99, 104, 97, 110, 103, 101, 115]⟩, false), (⟨#[99, 111, 108, 117, 109, 110]⟩, false), (⟨#[99, 111, 117, 110, 116, 115]⟩, false), (⟨#[101, 110, 100]⟩, false), (⟨#[101, 110, 100, 115]⟩, false), (⟨#[101, 110, 116, 114, 105, 101, 115]⟩, false), (⟨#[104, 97, 110, 100, 115]⟩, false), (⟨#[109, 97, 110, 110, 101, 114]⟩, false), (⟨#[110, 117, 109, 98, 101, 114]⟩, false), (⟨#[116, 114, 101, 101]⟩, false), (⟨#[116, 117, 114, 110, 115]⟩, false), (⟨#[109, 97, 110, 121]⟩, false)] (.call none 16 (.cons (.c .non) .nil))) .nil))) (.cons (.app 4 (.tld false [(⟨#[99, 104, 97, 110, 103, 101, 115]⟩, false), (⟨#[99, 111, 108, 117, 109, 110]⟩, false), (⟨#[99, 111, 117, 110, 116, 115]⟩, false), (⟨#[101, 110, 100]⟩, false), (⟨#[101, 110, 100, 115]⟩, false), (⟨#[101, 110, 116, 114, 105, 101, 115]⟩, false), (⟨#[104, 97, 110, 100, 115]⟩, false), (⟨#[109, 97, 110, 110, 101, 114]⟩, false), (⟨#[110, 117, 109, 98, 101, 114]⟩, false), (⟨#[116, 114, 101, 101]⟩, false), (⟨#[116, 117, 114, 110, 115]⟩, false), (⟨#[109, 97, 110, 121]⟩, false)] (.call none 27 (.cons (.c .non) (.cons (.c .non) (.cons (.c .non) .nil)))))) (.cons (.app 4 (.tld false [(⟨#[99, 104, 97, 110, 103, 101, 115]⟩, false), (⟨#[99, 111, 108, 117, 109, 110]⟩, false), (⟨#[99, 111, 117, 110, 116, 115]⟩, false), (⟨#[101, 110, 100]⟩, false), (⟨#[101, 110, 100, 115]⟩, false), (⟨#[101, 110, 116, 114, 105, 101, 115]⟩, false), (⟨#[104, 97, 110, 100, 115]⟩, false), (⟨#[109, 97, 110, 110, 101, 114]⟩, false), (⟨#[110, 117, 109, 98, 101, 114]⟩, false), (⟨#[116, 114, 101, 101]⟩, false), (⟨#[116, 117, 114, 110, 115]⟩, false), (⟨#[109, 97, 110, 121]⟩, false)] (.call none 27 (.cons (.v 3) (.cons (.c .non) (.cons (.c .non) .nil)))))) (.cons (.app 4 (.tld false [(⟨#[99, 104, 97, 110, 103, 101, 115]⟩, false), (⟨#[99, 111, 108, 117, 109, 110]⟩, false), (⟨#[99, 111, 117, 110, 116, 115]⟩, false), (⟨#[101, 110, 100]⟩, false), (⟨#[101, 110, 100, 115]⟩, false), (⟨#[101, 110, 116, 114, 105, 101, 115]⟩, false), (⟨#[104, 97, 110, 100, 115]⟩, false), (⟨#[109, 97, 110, 110, 101, 114]⟩, false), (⟨#[110, 117, 109, 98, 101, 114]⟩, false), (⟨#[116, 114, 101, 101]⟩, false), (⟨#[116, 117, 114, 110, 115]⟩, false), (⟨#[109, 97, 110, 121]⟩, false)] (.call none 27 (.cons (.v 3) (.cons (.c (.str ⟨#[115, 116, 101, 97, 100, 121]⟩)) (.cons (.c .non) .nil)))))) (.cons (.app 4 (.tld false [(⟨#[99, 104, 97, 110, 103, 101, 115]⟩, false), (⟨#[99, 111, 108, 117, 109, 110]⟩, false), (⟨#[99, 111, 117, 110, 116, 115]⟩, false), (⟨#[101, 110, 100]⟩, false), (⟨#[101, 110, 100, 115]⟩, false), (⟨#[101, 110, 116, 114, 105, 101, 115]⟩, false), (⟨#[104, 97, 110, 100, 115]⟩, false), (⟨#[109, 97, 110, 110, 101, 114]⟩, false), (⟨#[110, 117, 109, 98, 101, 114]⟩, false), (⟨#[116, 114, 101, 101]⟩, false), (⟨#[116, 117, 114, 110, 115]⟩, false), (⟨#[109, 97, 110, 121]⟩, false)] (.call none 29 (.cons (.v 3) (.cons (.c .non) (.cons (.c .non) .nil)))))) (.cons (.app 4 (.tld false [(⟨#[99, 104, 97, 110, 103, 101, 115]⟩, false), (⟨#[99, 111, 108, 117, 109, 110]⟩, false), (⟨#[99, 111, 117, 110, 116, 115]⟩, false), (⟨#[101, 110, 100]⟩, false), (⟨#[101, 110, 100, 115]⟩, false), (⟨#[101, 110, 116, 114, 105, 101, 115]⟩, false), (⟨#[104, 97, 110, 100, 115]⟩, false), (⟨#[109, 97, 110, 110, 101, 114]⟩, false), (⟨#[110, 117, 109, 98, 101, 114]⟩, false), (⟨#[116, 114, 101, 101]⟩, false), (⟨#[116, 117, 114, 110, 115]⟩, false), (⟨#[109, 97, 110, 121]⟩, false)] (.call none 29 (.cons (.v 3) (.cons (.c (.str ⟨#[115, 116, 101, 97, 100, 121]⟩)) (.cons (.tup (.cons (.v 2) (.cons (.c .non) .nil))) .nil)))))) (.cons (.app 4 (.tld false [(⟨#[99, 104, 97, 110, 103, 101, 115]⟩, false), (⟨#[99, 111, 108, 117, 109, 110]⟩, false), (⟨#[99, 111, 117, 110, 116, 115]⟩, false), (⟨#[101, 110, 100]⟩, false), (⟨#[101, 110, 100, 115]⟩, false), (⟨#[101, 110, 116, 114, 105, 101, 115]⟩, false), (⟨#[104, 97, 110, 100, 115]⟩, false), (⟨#[109, 97, 110, 110, 101, 114]⟩, false), (⟨#[110, 117, 109, 98, 101, 114]⟩, false), (⟨#[116, 114, 101, 101]⟩, false), (⟨#[116, 117, 114, 110, 115]⟩, false), (⟨#[109, 97, 110, 121]⟩, false)] (.call none 30 (.cons (.c .non) (.cons (.c .non) .nil))))) (.cons (.app 4 (.tld false [(⟨#[99, 104, 97, 110, 103, 101, 115]⟩, false), (⟨#[99, 111, 108, 117, 109, 110]⟩, false), (⟨#[99, 111, 117, 110, 116, 115]⟩, false), (⟨#[101, 110, 100]⟩, false), (⟨#[101, 110, 100, 115]⟩, false), (⟨#[101, 110, 116, 114, 105, 101, 115]⟩, false), (⟨#[104, 97, 110, 100, 115]⟩, false), (⟨#[109, 97, 110, 110, 101, 114]⟩, false), (⟨#[110, 117, 109, 98, 101, 114]⟩, false), (⟨#[116, 114, 101, 101]⟩, false), (⟨#[116, 117, 114, 110, 115]⟩, false), (⟨#[109, 97, 110, 121]⟩, false)] (.call none 30 (.cons (.v 3) (.cons (.c .non) .nil))))) (.cons (.app 4 (.tld false [(⟨#[99, 104, 97, 110, 103, 101, 115]⟩, false), (⟨#[99, 111, 108, 117, 109, 110]⟩, false), (⟨#[99, 111, 117, 110, 116, 115]⟩, false), (⟨#[101, 110, 100]⟩, false), (⟨#[101, 110, 100, 115]⟩, false), (⟨#[101, 110, 116, 114, 105, 101, 115]⟩, false), (⟨#[104, 97, 110, 100, 115]⟩, false), (⟨#[109, 97, 110, 110, 101, 114]⟩, false), (⟨#[110, 117, 109, 98, 101, 114]⟩, false), (⟨#[116, 114, 101, 101]⟩, false), (⟨#[116, 117, 114, 110, 115]⟩, false), (⟨#[109, 97, 110, 121]⟩, false)] (.call none 33 (.cons (.v 3) (.cons (.c .non) (.cons (.c .non) (.cons (.c .non) .nil))))))) (.cons (.app 4 (.tld false [(⟨#[99, 104, 97, 110, 103, 101, 115]⟩, false), (⟨#[99, 111, 108, 117, 109, 110]⟩, false), (⟨#[99, 111, 117, 110, 116, 115]⟩, false), (⟨#[101, 110, 100]⟩, false), (⟨#[101, 110, 100, 115]⟩, false), (⟨#[101, 110, 116, 114, 105, 101, 115]⟩, false), (⟨#[104, 97, 110, 100, 115]⟩, false), (⟨#[109, 97, 110, 110, 101, 114]⟩, false), (⟨#[110, 117, 109, 98, 101, 114]⟩, false), (⟨#[116, 114, 101, 101]⟩, false), (⟨#[116, 117, 114, 110, 115]⟩, false), (⟨#[109, 97, 110, 121]⟩, false)] (.call none 33 (.cons (.v 3) (.cons (.c (.str ⟨#[115, 116, 101, 97, 100, 121]⟩)) (.cons (.c .non) (.cons (.c (.int 3)) .nil))))))) (.cons (.app 4 (.tld false [(⟨#[99, 104, 97, 110, 103, 101, 115]⟩, false), (⟨#[99, 111, 108, 117, 109, 110]⟩, false), (⟨#[99, 111, 117, 110, 116, 115]⟩, false), (⟨#[101, 110, 100]⟩, false), (⟨#[101, 110, 100, 115]⟩, false), (⟨#[101, 110, 116, 114, 105, 101, 115]⟩, false), (⟨#[104, 97, 110, 100, 115]⟩, false), (⟨#[109, 97, 110, 110, 101, 114]⟩, false), (⟨#[110, 117, 109, 98, 101, 114]⟩, false), (⟨#[116, 114, 101, 101]⟩, false), (⟨#[116, 117, 114, 110, 115]⟩, false), (⟨#[109, 97, 110, 121]⟩, false)] (.call none 33 (.cons (.v 3) (.cons (.c (.str ⟨#[115, 116, 101, 97, 100, 121]⟩)) (.cons (.bin .add (.v 2) (.c (.int 1))) (.cons (.v 2) .nil))))))) (.cons (.app 4 (.tld false [(⟨#[99, 104, 97, 110, 103, 101, 115]⟩, false), (⟨#[99, 111, 108, 117, 109, 110]⟩, false), (⟨#[99, 111, 117, 110, 116, 115]⟩, false), (⟨#[101, 110, 100]⟩, false), (⟨#[101, 110, 100, 115]⟩, false), (⟨#[101, 110, 116, 114, 105, 101, 115]⟩, false), (⟨#[104, 97, 110, 100, 115]⟩, false), (⟨#[109, 97, 110, 110, 101, 114]⟩, false), (⟨#[110, 117, 109, 98, 101, 114]⟩, false), (⟨#[116, 114, 101, 101]⟩, false), (⟨#[116, 117, 114, 110, 115]⟩, false), (⟨#[109, 97, 110, 121]⟩, false)] (.call none 34 (.cons (.c .non) (.cons (.c (.int 3)) (.cons (.c (.int 2)) .nil)))))) (.cons (.app 4 (.tld false [(⟨#[99, 104, 97, 110, 103, 101, 115]⟩, false), (⟨#[99, 111, 108, 117, 109, 110]⟩, false), (⟨#[99, 111, 117, 110, 116, 115]⟩, false), (⟨#[101, 110, 100]⟩, false), (⟨#[101, 110, 100, 115]⟩, false), (⟨#[101, 110, 116, 114, 105, 101, 115]⟩, false), (⟨#[104, 97, 110, 100, 115]⟩, false), (⟨#[109, 97, 110, 110, 101, 114]⟩, false), (⟨#[110, 117, 109, 98, 101, 114]⟩, false), (⟨#[116, 114, 101, 101]⟩, false), (⟨#[116, 117, 114, 110, 115]⟩, false), (⟨#[109, 97, 110, 121]⟩, false)] (.call none 56 (.cons (.v 3) (.cons (.c (.str ⟨#[115, 116, 101, 97, 100, 121]⟩)) (.cons (.c .non) .nil)))))) (.cons (.app 4 (.tld false [(⟨#[99, 104, 97, 110, 103, 101, 115]⟩, false), (⟨#[99, 111, 108, 117, 109, 110]⟩, false), (⟨#[99, 111, 117, 110, 116, 115]⟩, false), (⟨#[101, 110, 100]⟩, false), (⟨#[101, 110, 100, 115]⟩, false), (⟨#[101, 110, 116, 114, 105, 101, 115]⟩, false), (⟨#[104, 97, 110, 100, 115]⟩, false), (⟨#[109, 97, 110, 110, 101, 114]⟩, false), (⟨#[110, 117, 109, 98, 101, 114]⟩, false), (⟨#[116, 114, 101, 101]⟩, false), (⟨#[116, 117, 114, 110, 115]⟩, false), (⟨#[109, 97, 110, 121]⟩, false)] (.call none 56 (.cons (.v 3) (.cons (.c (.str ⟨#[112, 117, 115, 104, 105, 110, 103]⟩)) (.cons (.c .non) .nil)))))) (.cons (.app 4 (.tld false [(⟨#[99, 104, 97, 110, 103, 101, 115]⟩, false), (⟨#[99, 111, 108, 117, 109, 110]⟩, false), (⟨#[99, 111, 117, 110, 116, 115]⟩, false), (⟨#[101, 110, 100]⟩, false), (⟨#[101, 110, 100, 115]⟩, false), (⟨#[101, 110, 116, 114, 105, 101, 115]⟩, false), (⟨#[104, 97, 110, 100, 115]⟩, false), (⟨#[109, 97, 110, 110, 101, 114]⟩, false), (⟨#[110, 117, 109, 98, 101, 114]⟩, false), (⟨#[116, 114, 101, 101]⟩, false), (⟨#[116, 117, 114, 110, 115]⟩, false), (⟨#[109, 97, 110, 121]⟩, false)] (.call none 57 (.cons (.v 3) (.cons (.c (.str ⟨#[112, 117, 115, 104, 105, 110, 103]⟩)) (.cons (.c .non) (.cons (.c .non) .nil))))))) (.cons (.app 4 (.tld false [(⟨#[99, 104, 97, 110, 103, 101, 115]⟩, false), (⟨#[99, 111, 108, 117, 109, 110]⟩, false), (⟨#[99, 111, 117, 110, 116, 115]⟩, false), (⟨#[101, 110, 100]⟩, false), (⟨#[101, 110, 100, 115]⟩, false), (⟨#[101, 110, 116, 114, 105, 101, 115]⟩, false), (⟨#[104, 97, 110, 100, 115]⟩, false), (⟨#[109, 97, 110, 110, 101, 114]⟩, false), (⟨#[110, 117, 109, 98, 101, 114]⟩, false), (⟨#[116, 114, 101, 101]⟩, false), (⟨#[116, 117, 114, 110, 115]⟩, false), (⟨#[109, 97, 110, 121]⟩, false)] (.call none 57 (.cons (.v 3) (.cons (.c (.str ⟨#[112, 117, 115, 104, 105, 110, 103]⟩)) (.cons (.c (.int 3)) (.cons (.c .non) .nil))))))) (.cons (.asg 5 (.lst (.cons (.c (.str ⟨#[99, 111, 108, 117, 109, 110]⟩)) (.cons (.c (.str ⟨#[99, 111, 108, 117, 109, 110]⟩)) (.cons (.c (.str ⟨#[109, 97, 110, 110, 101, 114]⟩)) (.cons (.c (.str ⟨#[101, 110, 100]⟩)) (.cons (.c (.str ⟨#[109, 97, 110, 110, 101, 114]⟩)) (.cons (.c (.str ⟨#[101, 110, 100, 115]⟩)) (.cons (.c (.str ⟨#[99, 111, 108, 117, 109, 110]⟩)) (.cons (.c (.str ⟨#[101, 110, 100, 115]⟩)) (.cons (.c (.str ⟨#[109, 97, 110, 110, 101, 114]⟩)) (.cons (.c (.str ⟨#[101, 110, 100]⟩)) (.cons (.c (.str ⟨#[101, 110, 100]⟩)) .nil))))))))))))) (.cons (.asg 5 (.bin .add (.v 5) (.lst (.cons (.c (.str ⟨#[99, 111, 108, 117, 109, 110]⟩)) (.cons (.c (.str ⟨#[109, 97, 110, 110, 101, 114]⟩)) (.cons (.c (.str ⟨#[101, 110, 100]⟩)) (.cons (.c (.str ⟨#[101, 110, 100]⟩)) (.cons (.c (.str ⟨#[110, 117, 109, 98, 101, 114]⟩)) .nil)))))))) (.cons (.ifs (.cmp .ne (.m 4) (.v 5)) (.cons (.ret (.c (.bl false))) .nil) .nil) (.cons (.own 4 (.lst (.cons (.tld false [(⟨#[99, 104, 97, 110, 103, 101, 115]⟩, false), (⟨#[99, 111, 108, 117, 109, 110]⟩, false), (⟨#[99, 111, 117, 110, 116, 115]⟩, false), (⟨#[101, 110, 100]⟩, false), (⟨#[101, 110, 100, 115]⟩, false), (⟨#[101, 110, 116, 114, 105, 101, 115]⟩, false), (⟨#[104, 97, 110, 100, 115]⟩, false), (⟨#[109, 97, 110, 110, 101, 114]⟩, false), (⟨#[110, 117, 109, 98, 101, 114]⟩, false), (⟨#[116, 114, 101, 101]⟩, false), (⟨#[116, 117, 114, 110, 115]⟩, false), (⟨#[109, 97, 110, 121]⟩, false)] (.call none 74 (.cons (.c .non) (.cons (.c .non) (.cons (.c .non) .nil))))) .nil))) (.cons (.app 4 (.tld false [(⟨#[99, 104, 97, 110, 103, 101, 115]⟩, false), (⟨#[99, 111, 108, 117, 109, 110]⟩, false), (⟨#[99, 111, 117, 110, 116, 115]⟩, false), (⟨#[101, 110, 100]⟩, false), (⟨#[101, 110, 100, 115]⟩, false), (⟨#[101, 110, 116, 114, 105, 101, 115]⟩, false), (⟨#[104, 97, 110, 100, 115]⟩, false), (⟨#[109, 97, 110, 110, 101, 114]⟩, false), (⟨#[110, 117, 109, 98, 101, 114]⟩, false), (⟨#[116, 114, 101, 101]⟩, false), (⟨#[116, 117, 114, 110, 115]⟩, false), (⟨#[109, 97, 110, 121]⟩, false)] (.call none 74 (.cons (.tup .nil) (.cons (.c .non) (.cons (.c .non) .nil)))))) (.cons (.own 4 (.bin .add (.m 4) (.lst (.cons (.tld false [(⟨#[99, 104, 97, 110, 103, 101, 115]⟩, false), (⟨#[99, 111, 108, 117, 109, 110]⟩, false), (⟨#[99, 111, 117, 110, 116, 115]⟩, false), (⟨#[101, 110, 100]⟩, false), (⟨#[101, 110, 100, 115]⟩, false), (⟨#[101, 110, 116, 114, 105, 101, 115]⟩, false), (⟨#[104, 97, 110, 100, 115]⟩, false), (⟨#[109, 97, 110, 110, 101, 114]⟩, false), (⟨#[110, 117, 109, 98, 101, 114]⟩, false), (⟨#[116, 114, 101, 101]⟩, false), (⟨#[116, 117, 114, 110, 115]⟩, false), (⟨#[109, 97, 110, 121]⟩, false)] (.call none 74 (.cons (.tup .nil) (.cons (.c (.str ⟨#[115, 116, 101, 97, 100, 121]⟩)) (.cons (.c .non) .nil))))) .nil)))) (.cons (.app 4 (.tld false [(⟨#[99, 104, 97, 110, 103, 101, 115]⟩, false), (⟨#[99, 111, 108, 117, 109, 110]⟩, false), (⟨#[99, 111, 117, 110, 116, 115]⟩, false), (⟨#[101, 110, 100]⟩, false), (⟨#[101, 110, 100, 115]⟩, false), (⟨#[101, 110, 116, 114, 105, 101, 115]⟩, false), (⟨#[104, 97, 110, 100, 115]⟩, false), (⟨#[109, 97, 110, 110, 101, 114]⟩, false), (⟨#[110, 117, 109, 98, 101, 114]⟩, false), (⟨#[116, 114, 101, 101]⟩, false), (⟨#[116, 117, 114, 110, 115]⟩, false), (⟨#[109, 97, 110, 121]⟩, false)] (.call none 75 (.cons (.c .non) (.cons (.c (.str ⟨#[103, 111]⟩)) (.cons (.tup .nil) .nil)))))) (.cons (.app 4 (.tld false [(⟨#[99, 104, 97, 110, 103, 101, 115]⟩, false), (⟨#[99, 111, 108, 117, 109, 110]⟩, false), (⟨#[99, 111, 117, 110, 116, 115]⟩, false), (⟨#[101, 110, 100]⟩, false), (⟨#[101, 110, 100, 115]⟩, false), (⟨#[101, 110, 116, 114, 105, 101, 115]⟩, false), (⟨#[104, 97, 110, 100, 115]⟩, false), (⟨#[109, 97, 110, 110, 101, 114]⟩, false), (⟨#[110, 117, 109, 98, 101, 114]⟩, false), (⟨#[116, 114, 101, 101]⟩, false), (⟨#[116, 117, 114, 110, 115]⟩, false), (⟨#[109, 97, 110, 121]⟩, false)] (.call none 75 (.cons (.tup .nil) (.cons (.c (.str ⟨#[103, 111]⟩)) (.cons (.c .non) .nil)))))) (.cons (.app 4 (.tld false [(⟨#[99, 104, 97, 110, 103, 101, 115]⟩, false), (⟨#[99, 111, 108, 117, 109, 110]⟩, false), (⟨#[99, 111, 117, 110, 116, 115]⟩, false), (⟨#[101, 110, 100]⟩, false), (⟨#[101, 110, 100, 115]⟩, false), (⟨#[101, 110, 116, 114, 105, 101, 115]⟩, false), (⟨#[104, 97, 110, 100, 115]⟩, false), (⟨#[109, 97, 110, 110, 101, 114]⟩, false), (⟨#[110, 117, 109, 98, 101, 114]⟩, false), (⟨#[116, 114, 101, 101]⟩, false), (⟨#[116, 117, 114, 110, 115]⟩, false), (⟨#[109, 97, 110, 121]⟩, false)] (.call none 78 (.cons (.c .non) (.cons (.c .non) (.cons (.c .non) (.cons (.c .non) .nil))))))) (.cons (.app 4 (.tld false [(⟨#[99, 104, 97, 110, 103, 101, 115]⟩, false), (⟨#[99, 111, 108, 117, 109, 110]⟩, false), (⟨#[99, 111, 117, 110, 116, 115]⟩, false), (⟨#[101, 110, 100]⟩, false), (⟨#[101, 110, 100, 115]⟩, false), (⟨#[101, 110, 116, 114, 105, 101, 115]⟩, false), (⟨#[104, 97, 110, 100, 115]⟩, false), (⟨#[109, 97, 110, 110, 101, 114]⟩, false), (⟨#[110, 117, 109, 98, 101, 114]⟩, false), (⟨#[116, 114, 101, 101]⟩, false), (⟨#[116, 117, 114, 110, 115]⟩, false), (⟨#[109, 97, 110, 121]⟩, false)] (.call none 78 (.cons (.v 3) (.cons (.c (.str ⟨#[115, 116, 101, 97, 100, 121]⟩)) (.cons (.c .non) (.cons (.c .non) .nil))))))) (.cons (.app 4 (.tld false [(⟨#[99, 104, 97, 110, 103, 101, 115]⟩, false), (⟨#[99, 111, 108, 117, 109, 110]⟩, false), (⟨#[99, 111, 117, 110, 116, 115]⟩, false), (⟨#[101, 110, 100]⟩, false), (⟨#[101, 110, 100, 115]⟩, false), (⟨#[101, 110, 116, 114, 105, 101, 115]⟩, false), (⟨#[104, 97, 110, 100, 115]⟩, false), (⟨#[109, 97, 110, 110, 101, 114]⟩, false), (⟨#[110, 117, 109, 98, 101, 114]⟩, false), (⟨#[116, 114, 101, 101]⟩, false), (⟨#[116, 117, 114, 110, 115]⟩, false), (⟨#[109, 97, 110, 121]⟩, false)] (.call none 78 (.cons (.v 3) (.cons (.c (.str ⟨#[112, 117, 115, 104, 105, 110, 103]⟩)) (.cons (.c .non) (.cons (.c .non) .nil))))))) (.cons (.app 4 (.tld false [(⟨#[99, 104, 97, 110, 103, 101, 115]⟩, false), (⟨#[99, 111, 108, 117, 109, 110]⟩, false), (⟨#[99, 111, 117, 110, 116, 115]⟩, false), (⟨#[101, 110, 100]⟩, false), (⟨#[101, 110, 100, 115]⟩, false), (⟨#[101, 110, 116, 114, 105, 101, 115]⟩, false), (⟨#[104, 97, 110, 100, 115]⟩, false), (⟨#[109, 97, 110, 110, 101, 114]⟩, false), (⟨#[110, 117, 109, 98, 101, 114]⟩, false), (⟨#[116, 114, 101, 101]⟩, false), (⟨#[116, 117, 114, 110, 115]⟩, false), (⟨#[109, 97, 110, 121]⟩, false)] (.call none 78 (.cons (.v 3) (.cons (.c (.str ⟨#[112, 117, 115, 104, 105, 110, 103]⟩)) (.cons (.tup (.cons (.tup .nil) .nil)) (.cons (.tup (.cons (.bin .add (.v 2) (.c (.int 1))) .nil)) .nil))))))) (.cons (.app 4 (.tld false [(⟨#[99, 104, 97, 110, 103, 101, 115]⟩, false), (⟨#[99, 111, 108, 117, 109, 110]⟩, false), (⟨#[99, 111, 117, 110, 116, 115]⟩, false), (⟨#[101, 110, 100]⟩, false), (⟨#[101, 110, 100, 115]⟩, false), (⟨#[101, 110, 116, 114, 105, 101, 115]⟩, false), (⟨#[104, 97, 110, 100, 115]⟩, false), (⟨#[109, 97, 110, 110, 101, 114]⟩, false), (⟨#[110, 117, 109, 98, 101, 114]⟩, false), (⟨#[116, 114, 101, 101]⟩, false), (⟨#[116, 117, 114, 110, 115]⟩, false), (⟨#[109, 97, 110, 121]⟩, false)] (.call none 79 (.cons (.v 3) (.cons (.c (.str ⟨#[112, 117, 115, 104, 105, 110, 103]⟩)) (.cons (.tup (.cons (.tup (.cons (.c .non) .nil)) .nil)) (.cons (.c .non) .nil))))))) (.cons (.app 4 (.tld false [(⟨#[99, 104, 97, 110, 103, 101, 115]⟩, false), (⟨#[99, 111, 108, 117, 109, 110]⟩, false), (⟨#[99, 111, 117, 110, 116, 115]⟩, false), (⟨#[101, 110, 100]⟩, false), (⟨#[101, 110, 100, 115]⟩, false), (⟨#[101, 110, 116, 114, 105, 101, 115]⟩, false), (⟨#[104, 97, 110, 100, 115]⟩, false), (⟨#[109, 97, 110, 110, 101, 114]⟩, false), (⟨#[110, 117, 109, 98, 101, 114]⟩, false), (⟨#[116, 114, 101, 101]⟩, false), (⟨#[116, 117, 114, 110, 115]⟩, false), (⟨#[109, 97, 110, 121]⟩, false)] (.call none 44 (.cons (.c .non) (.cons (.c .non) (.cons (.c .non) .nil)))))) (.cons (.app 4 (.tld false [(⟨#[99, 104, 97, 110, 103, 101, 115]⟩, false), (⟨#[99, 111, 108, 117, 109, 110]⟩, false), (⟨#[99, 111, 117, 110, 116, 115]⟩, false), (⟨#[101, 110, 100]⟩, false), (⟨#[101, 110, 100, 115]⟩, false), (⟨#[101, 110, 116, 114, 105, 101, 115]⟩, false), (⟨#[104, 97, 110, 100, 115]⟩, false), (⟨#[109, 97, 110, 110, 101, 114]⟩, false), (⟨#[110, 117, 109, 98, 101, 114]⟩, false), (⟨#[116, 114, 101, 101]⟩, false), (⟨#[116, 117, 114, 110, 115]⟩, false), (⟨#[109, 97, 110, 121]⟩, false)] (.call none 44 (.cons (.c (.str ⟨#[115, 116, 101, 97, 100, 121]⟩)) (.cons (.c .non) (.cons (.c .non) .nil)))))) (.cons (.app 4 (.tld false [(⟨#[99, 104, 97, 110, 103, 101, 115]⟩, false), (⟨#[99, 111, 108, 117, 109, 110]⟩, false), (⟨#[99, 111, 117, 110, 116, 115]⟩, false), (⟨#[101, 110, 100]⟩, false), (⟨#[101, 110, 100, 115]⟩, false), (⟨#[101, 110, 116, 114, 105, 101, 115]⟩, false), (⟨#[104, 97, 110, 100, 115]⟩, false), (⟨#[109, 97, 110, 110, 101, 114]⟩, false), (⟨#[110, 117, 109, 98, 101, 114]⟩, false), (⟨#[116, 114, 101, 101]⟩, false), (⟨#[116, 117, 114, 110, 115]⟩, false), (⟨#[109, 97, 110, 121]⟩, false)] (.call none 45 (.cons (.c (.str ⟨#[115, 116, 101, 97, 100, 121]⟩)) (.cons (.tup .nil) (.cons (.c .non) (.cons (.c .non) .nil))))))) (.cons (.app 4 (.tld false [(⟨#[99, 104, 97, 110, 103, 101, 115]⟩, false), (⟨#[99, 111, 108, 117, 109, 110]⟩, false), (⟨#[99, 111, 117, 110, 116, 115]⟩, false), (⟨#[101, 110, 100]⟩, false), (⟨#[101, 110, 100, 115]⟩, false), (⟨#[101, 110, 116, 114, 105, 101, 115]⟩, false), (⟨#[104, 97, 110, 100, 115]⟩, false), (⟨#[109, 97, 110, 110, 101, 114]⟩, false), (⟨#[110, 117, 109, 98, 101, 114]⟩, false), (⟨#[116, 114, 101, 101]⟩, false), (⟨#[116, 117, 114, 110, 115]⟩, false), (⟨#[109, 97, 110, 121]⟩, false)] (.call none 49 (.cons (.c .non) (.cons (.tup (.cons (.v 2) (.cons (.v 2) .nil))) .nil))))) (.cons (.app 4 (.tld false [(⟨#[99, 104, 97, 110, 103, 101, 115]⟩, false), (⟨#[99, 111, 108, 117, 109, 110]⟩, false), (⟨#[99, 111, 117, 110, 116, 115]⟩, false), (⟨#[101, 110, 100]⟩, false), (⟨#[101, 110, 100, 115]⟩, false), (⟨#[101, 110, 116, 114, 105, 101, 115]⟩, false), (⟨#[104, 97, 110, 100, 115]⟩, false), (⟨#[109, 97, 110, 110, 101, 114]⟩, false), (⟨#[110, 117, 109, 98, 101, 114]⟩, false), (⟨#[116, 114, 101, 101]⟩, false), (⟨#[116, 117, 114, 110, 115]⟩, false), (⟨#[109, 97, 110, 121]⟩, false)] (.call none 50 (.cons (.tup (.cons (.v 2) .nil)) (.cons (.tup (.cons (.v 2) (.cons (.v 2) .nil))) (.cons (.c .non) .nil)))))) (.cons (.app 4 (.tld false [(⟨#[99, 104, 97, 110, 103, 101, 115]⟩, false), (⟨#[99, 111, 108, 117, 109, 110]⟩, false), (⟨#[99, 111, 117, 110, 116, 115]⟩, false), (⟨#[101, 110, 100]⟩, false), (⟨#[101, 110, 100, 115]⟩, false), (⟨#[101, 110, 116, 114, 105, 101, 115]⟩, false), (⟨#[104, 97, 110, 100, 115]⟩, false), (⟨#[109, 97, 110, 110, 101, 114]⟩, false), (⟨#[110, 117, 109, 98, 101, 114]⟩, false), (⟨#[116, 114, 101, 101]⟩, false), (⟨#[116, 117, 114, 110, 115]⟩, false), (⟨#[109, 97, 110, 121]⟩, false)] (.call none 52 (.cons (.c .non) (.cons (.c .non) .nil))))) (.cons (.asg 5 (.lst (.cons (.c (.str ⟨#[101, 110, 116, 114, 105, 101, 115]⟩)) (.cons (.c (.str ⟨#[109, 97, 110, 110, 101, 114]⟩)) (.cons (.c (.str ⟨#[99, 104, 97, 110, 103, 101, 115]⟩)) (.cons (.c (.str ⟨#[101, 110, 116, 114, 105, 101, 115]⟩)) (.cons (.c (.str ⟨#[109, 97, 110, 110, 101, 114]⟩)) (.cons (.c (.str ⟨#[99, 111, 108, 117, 109, 110]⟩)) (.cons (.c (.str ⟨#[109, 97, 110, 110, 101, 114]⟩)) (.cons (.c (.str ⟨#[104, 97, 110, 100, 115]⟩)) (.cons (.c (.str ⟨#[116, 117, 114, 110, 115]⟩)) (.cons (.c (.str ⟨#[104, 97, 110, 100, 115]⟩)) .nil)))))))))))) (.cons (.asg 5 (.bin .add (.v 5) (.lst (.cons (.c (.str ⟨#[109, 97, 110, 110, 101, 114]⟩)) (.cons (.c (.str ⟨#[101, 110, 100, 115]⟩)) (.cons (.c (.str ⟨#[101, 110, 100, 115]⟩)) (.cons (.c (.str ⟨#[101, 110, 100, 115]⟩)) (.cons (.c (.str ⟨#[101, 110, 100, 115]⟩)) (.cons (.c (.str ⟨#[101, 110, 100, 115]⟩)) .nil))))))))) (.cons (.ifs (.cmp .ne (.m 4) (.v 5)) (.cons (.ret (.c (.bl false))) .nil) .nil) (.cons (.own 4 (.lst (.cons (.tld false [(⟨#[99, 104, 97, 110, 103, 101, 115]⟩, false), (⟨#[99, 111, 108, 117, 109, 110]⟩, false), (⟨#[99, 111, 117, 110, 116, 115]⟩, false), (⟨#[101, 110, 100]⟩, false), (⟨#[101, 110, 100, 115]⟩, false), (⟨#[101, 110, 116, 114, 105, 101, 115]⟩, false), (⟨#[104, 97, 110, 100, 115]⟩, false), (⟨#[109, 97, 110, 110, 101, 114]⟩, false), (⟨#[110, 117, 109, 98, 101, 114]⟩, false), (⟨#[116, 114, 101, 101]⟩, false), (⟨#[116, 117, 114, 110, 115]⟩, false), (⟨#[109, 97, 110, 121]⟩, false)] (.call none 53 (.cons (.c .non) (.cons (.c .non) (.cons (.c .non) .nil))))) .nil))) (.cons (.app 4 (.tld false [(⟨#[99, 104, 97, 110, 103, 101, 115]⟩, false), (⟨#[99, 111, 108, 117, 109, 110]⟩, false), (⟨#[99, 111, 117, 110, 116, 115]⟩, false), (⟨#[101, 110, 100]⟩, false), (⟨#[101, 110, 100, 115]⟩, false), (⟨#[101, 110, 116, 114, 105, 101, 115]⟩, false), (⟨#[104, 97, 110, 100, 115]⟩, false), (⟨#[109, 97, 110, 110, 101, 114]⟩, false), (⟨#[110, 117, 109, 98, 101, 114]⟩, false), (⟨#[116, 114, 101, 101]⟩, false), (⟨#[116, 117, 114, 110, 115]⟩, false), (⟨#[109, 97, 110, 121]⟩, false)] (.call none 53 (.cons (.c (.str ⟨#[115, 116, 101, 97, 100, 121]⟩)) (.cons (.tup .nil) (.cons (.c .non) .nil)))))) (.cons (.own 4 (.bin .add (.m 4) (.lst (.cons (.tld false [(⟨#[99, 104, 97, 110, 103, 101, 115]⟩, false), (⟨#[99, 111, 108, 117, 109, 110]⟩, false), (⟨#[99, 111, 117, 110, 116, 115]⟩, false), (⟨#[101, 110, 100]⟩, false), (⟨#[101, 110, 100, 115]⟩, false), (⟨#[101, 110, 116, 114, 105, 101, 115]⟩, false), (⟨#[104, 97, 110, 100, 115]⟩, false), (⟨#[109, 97, 110, 110, 101, 114]⟩, false), (⟨#[110, 117, 109, 98, 101, 114]⟩, false), (⟨#[116, 114, 101, 101]⟩, false), (⟨#[116, 117, 114, 110, 115]⟩, false), (⟨#[109, 97, 110, 121]⟩, false)] (.call none 60 (.cons (.c .non) (.cons (.c (.int 3)) .nil)))) .nil)))) (.cons (.app 4 (.tld false [(⟨#[99, 104, 97, 110, 103, 101, 115]⟩, false), (⟨#[99, 111, 108, 117, 109, 110]⟩, false), (⟨#[99, 111, 117, 110, 116, 115]⟩, false), (⟨#[101, 110, 100]⟩, false), (⟨#[101, 110, 100, 115]⟩, false), (⟨#[101, 110, 116, 114, 105, 101, 115]⟩, false), (⟨#[104, 97, 110, 100, 115]⟩, false), (⟨#[109, 97, 110, 110, 101, 114]⟩, false), (⟨#[110, 117, 109, 98, 101, 114]⟩, false), (⟨#[116, 114, 101, 101]⟩, false), (⟨#[116, 117, 114, 110, 115]⟩, false), (⟨#[109, 97, 110, 121]⟩, false)] (.call none 60 (.cons (.tup (.cons (.c (.int 1)) (.cons (.c (.int 1)) .nil))) (.cons (.c (.int 3)) .nil))))) (.cons (.app 4 (.tld false [(⟨#[99, 104, 97, 110, 103, 101, 115]⟩, false), (⟨#[99, 111, 108, 117, 109, 110]⟩, false), (⟨#[99, 111, 117, 110, 116, 115]⟩, false), (⟨#[101, 110, 100]⟩, false), (⟨#[101, 110, 100, 115]⟩, false), (⟨#[101, 110, 116, 114, 105, 101, 115]⟩, false), (⟨#[104, 97, 110, 100, 115]⟩, false), (⟨#[109, 97, 110, 110, 101, 114]⟩, false), (⟨#[110, 117, 109, 98, 101, 114]⟩, false), (⟨#[116, 114, 101, 101]⟩, false), (⟨#[116, 117, 114, 110, 115]⟩, false), (⟨#[109, 97, 110, 121]⟩, false)] (.call none 64 (.cons (.c .non) (.cons (.c .non) .nil))))) (.cons (.app 4 (.tld false [(⟨#[99, 104, 97, 110, 103, 101, 115]⟩, false), (⟨#[99, 111, 108, 117, 109, 110]⟩, false), (⟨#[99, 111, 117, 110, 116, 115]⟩, false), (⟨#[101, 110, 100]⟩, false), (⟨#[101, 110, 100, 115]⟩, false), (⟨#[101, 110, 116, 114, 105, 101, 115]⟩, false), (⟨#[104, 97, 110, 100, 115]⟩, false), (⟨#[109, 97, 110, 110, 101, 114]⟩, false), (⟨#[110, 117, 109, 98, 101, 114]⟩, false), (⟨#[116, 114, 101, 101]⟩, false), (⟨#[116, 117, 114, 110, 115]⟩, false), (⟨#[109, 97, 110, 121]⟩, false)] (.call none 64 (.cons (.tup (.cons (.c (.int 1)) (.cons (.c (.int 1)) .nil))) (.cons (.c .non) .nil))))) (.cons (.app 4 (.tld false [(⟨#[99, 104, 97, 110, 103, 101, 115]⟩, false), (⟨#[99, 111, 108, 117, 109, 110]⟩, false), (⟨#[99, 111, 117, 110, 116, 115]⟩, false), (⟨#[101, 110, 100]⟩, false), (⟨#[101, 110, 100, 115]⟩, false), (⟨#[101, 110, 116, 114, 105, 101, 115]⟩, false), (⟨#[104, 97, 110, 100, 115]⟩, false), (⟨#[109, 97, 110, 110, 101, 114]⟩, false), (⟨#[110, 117, 109, 98, 101, 114]⟩, false), (⟨#[116, 114, 101, 101]⟩, false), (⟨#[116, 117, 114, 110, 115]⟩, false), (⟨#[109, 97, 110, 121]⟩, false)] (.call none 70 (.cons (.c (.int 3)) (.cons (.un .neg (.c (.int 1))) .nil))))) (.cons (.app 4 (.tld false [(⟨#[99, 104, 97, 110, 103, 101, 115]⟩, false), (⟨#[99, 111, 108, 117, 109, 110]⟩, false), (⟨#[99, 111, 117, 110, 116, 115]⟩, false), (⟨#[101, 110, 100]⟩, false), (⟨#[101, 110, 100, 115]⟩, false), (⟨#[101, 110, 116, 114, 105, 101, 115]⟩, false), (⟨#[104, 97, 110, 100, 115]⟩, false), (⟨#[109, 97, 110, 110, 101, 114]⟩, false), (⟨#[110, 117, 109, 98, 101, 114]⟩, false), (⟨#[116, 114, 101, 101]⟩, false), (⟨#[116, 117, 114, 110, 115]⟩, false), (⟨#[109, 97, 110, 121]⟩, false)] (.call none 70 (.cons (.c .non) (.cons (.bin .add (.v 2) (.c (.int 1))) .nil))))) (.cons (.app 4 (.tld false [(⟨#[99, 104, 97, 110, 103, 101, 115]⟩, false), (⟨#[99, 111, 108, 117, 109, 110]⟩, false), (⟨#[99, 111, 117, 110, 116, 115]⟩, false), (⟨#[101, 110, 100]⟩, false), (⟨#[101, 110, 100, 115]⟩, false), (⟨#[101, 110, 116, 114, 105, 101, 115]⟩, false), (⟨#[104, 97, 110, 100, 115]⟩, false), (⟨#[109, 97, 110, 110, 101, 114]⟩, false), (⟨#[110, 117, 109, 98, 101, 114]⟩, false), (⟨#[116, 114, 101, 101]⟩, false), (⟨#[116, 117, 114, 110, 115]⟩, false), (⟨#[109, 97, 110, 121]⟩, false)] (.call none 71 (.cons (.c .non) (.cons (.c .non) .nil))))) (.cons (.app 4 (.tld false [(⟨#[99, 104, 97, 110, 103, 101, 115]⟩, false), (⟨#[99, 111, 108, 117, 109, 110]⟩, false), (⟨#[99, 111, 117, 110, 116, 115]⟩, false), (⟨#[101, 110, 100]⟩, false), (⟨#[101, 110, 100, 115]⟩, false), (⟨#[101, 110, 116, 114, 105, 101, 115]⟩, false), (⟨#[104, 97, 110, 100, 115]⟩, false), (⟨#[109, 97, 110, 110, 101, 114]⟩, false), (⟨#[110, 117, 109, 98, 101, 114]⟩, false), (⟨#[116, 114, 101, 101]⟩, false), (⟨#[116, 117, 114, 110, 115]⟩, false), (⟨#[109, 97, 110, 121]⟩, false)] (.call none 71 (.cons (.bin .mul (.tup (.cons (.c (.int 1)) .nil)) (.c (.int 12))) (.cons (.c .non) .nil))))) (.cons (.app 4 (.tld false [(⟨#[99, 104, 97, 110, 103, 101, 115]⟩, false), (⟨#[99, 111, 108, 117, 109, 110]⟩, false), (⟨#[99, 111, 117, 110, 116, 115]⟩, false), (⟨#[101, 110, 100]⟩, false), (⟨#[101, 110, 100, 115]⟩, false), (⟨#[101, 110, 116, 114, 105, 101, 115]⟩, false), (⟨#[104, 97, 110, 100, 115]⟩, false), (⟨#[109, 97, 110, 110, 101, 114]⟩, false), (⟨#[110, 117, 109, 98, 101, 114]⟩, false), (⟨#[116, 114, 101, 101]⟩, false), (⟨#[116, 117, 114, 110, 115]⟩, false), (⟨#[109, 97, 110, 121]⟩, false)] (.call none 71 (.cons (.bin .mul (.tup (.cons (.c (.int 1)) .nil)) (.c (.int 12))) (.cons (.v 2) .nil))))) (.cons (.app 4 (.tld false [(⟨#[99, 104, 97, 110, 103, 101, 115]⟩, false), (⟨#[99, 111, 108, 117, 109, 110]⟩, false), (⟨#[99, 111, 117, 110, 116, 115]⟩, false), (⟨#[101, 110, 100]⟩, false), (⟨#[101, 110, 100, 115]⟩, false), (⟨#[101, 110, 116, 114, 105, 101, 115]⟩, false), (⟨#[104, 97, 110, 100, 115]⟩, false), (⟨#[109, 97, 110, 110, 101, 114]⟩, false), (⟨#[110, 117, 109, 98, 101, 114]⟩, false), (⟨#[116, 114, 101, 101]⟩, false), (⟨#[116, 117, 114, 110, 115]⟩, false), (⟨#[109, 97, 110, 121]⟩, false)] (.call none 71 (.cons (.bin .mul (.tup (.cons (.c (.int 1)) .nil)) (.c (.int 32))) (.cons (.v 2) .nil))))) (.cons (.ret (.cmp .eq (.m 4) (.lst (.cons (.c (.str ⟨#[109, 97, 110, 110, 101, 114]⟩)) (.cons (.c (.str ⟨#[101, 110, 100, 115]⟩)) (.cons (.c (.str ⟨#[99, 111, 117, 110, 116, 115]⟩)) (.cons (.c (.str ⟨#[116, 114, 101, 101]⟩)) (.cons (.c (.str ⟨#[99, 111, 117, 110, 116, 115]⟩)) (.cons (.c .non) (.cons (.c (.str ⟨#[116, 114, 101, 101]⟩)) (.cons (.c (.str ⟨#[110, 117, 109, 98, 101, 114]⟩)) (.cons (.c (.str ⟨#[99, 111, 117, 110, 116, 115]⟩)) (.cons (.c (.str ⟨#[110, 117, 109, 98, 101, 114]⟩)) (.cons (.c (.str ⟨#[109, 97, 110, 121]⟩)) (.cons (.c (.str ⟨#[99, 111, 117, 110, 116, 115]⟩)) .nil))))))))))))))) .nil))))))))))))))))))))))))))))))))))))))))))))))))))))))
abbrev i_is_in : Nat := 0
abbrev i_is_pair : Nat := 1
abbrev i_is_entry : Nat := 2
abbrev i_is_entries : Nat := 3
abbrev i_is_end : Nat := 4
abbrev i_is_row_of_ends : Nat := 5
abbrev i_is_right : Nat := 6
abbrev i_is_column : Nat := 7
abbrev i_need_column : Nat := 8
abbrev i_need_entries : Nat := 9
abbrev i_need_manner : Nat := 10
abbrev i_need_moving : Nat := 11
abbrev i_need_end : Nat := 12
abbrev i_need_ends : Nat := 13
abbrev i_need_unlike : Nat := 14
abbrev i_all_pieces : Nat := 15
abbrev i_pieces : Nat := 16
abbrev i_of_pieces : Nat := 17
abbrev i_around : Nat := 18
abbrev i_has_end : Nat := 19
abbrev i_pushing_swaps : Nat := 20
abbrev i_swapping_swaps : Nat := 21
abbrev i_all_swaps : Nat := 22
abbrev i_changed : Nat := 23
abbrev i_steady : Nat := 24
abbrev i_with_end : Nat := 25
abbrev i_cut_at : Nat := 26
abbrev i_cut : Nat := 27
abbrev i_cut_row : Nat := 28
abbrev i_cut_all : Nat := 29
abbrev i_looks : Nat := 30
abbrev i_stretch : Nat := 31
abbrev i_need_question : Nat := 32
abbrev i_asked : Nat := 33
abbrev i_plain_answer : Nat := 34
abbrev i_grown : Nat := 35
abbrev i_built : Nat := 36
abbrev i_in_order : Nat := 37
abbrev i_ahead : Nat := 38
abbrev i_has_form : Nat := 39
abbrev i_is_tree : Nat := 40
abbrev i_need_tree : Nat := 41
abbrev i_need_two : Nat := 42
abbrev i_is_alike : Nat := 43
abbrev i_alike : Nat := 44
abbrev i_shows_parting : Nat := 45
abbrev i_need_rows : Nat := 46
abbrev i_exchanged : Nat := 47
abbrev i_all_exchanges : Nat := 48
abbrev i_exchanges : Nat := 49
abbrev i_shows_exchanges : Nat := 50
abbrev i_joined : Nat := 51
abbrev i_joined_tree : Nat := 52
abbrev i_replays : Nat := 53
abbrev i_swaps_of : Nat := 54
abbrev i_need_cut : Nat := 55
abbrev i_swaps : Nat := 56
abbrev i_broken : Nat := 57
abbrev i_need_counts : Nat := 58
abbrev i_sum_looks : Nat := 59
abbrev i_tree_looks : Nat := 60
abbrev i_all_looks : Nat := 61
abbrev i_least_looks : Nat := 62
abbrev i_is_table : Nat := 63
abbrev i_shows_below : Nat := 64
abbrev i_sizes : Nat := 65
abbrev i_forest_count : Nat := 66
abbrev i_without : Nat := 67
abbrev i_tops : Nat := 68
abbrev i_first_of : Nat := 69
abbrev i_order_at : Nat := 70
abbrev i_tree_count : Nat := 71
abbrev i_spread : Nat := 72
abbrev i_all_done : Nat := 73
abbrev i_worked : Nat := 74
abbrev i_moves : Nat := 75
abbrev i_is_hand : Nat := 76
abbrev i_all_woven : Nat := 77
abbrev i_woven : Nat := 78
abbrev i_finished : Nat := 79
abbrev i__law_taken : Nat := 80
abbrev i__law_pick : Nat := 81
abbrev i_law : Nat := 82
def F_is_in : Fn := ⟨3, 3, false, b_is_in⟩
def F_is_pair : Fn := ⟨1, 1, false, b_is_pair⟩
def F_is_entry : Fn := ⟨1, 1, false, b_is_entry⟩
def F_is_entries : Fn := ⟨1, 4, false, b_is_entries⟩
def F_is_end : Fn := ⟨1, 1, false, b_is_end⟩
def F_is_row_of_ends : Fn := ⟨1, 2, false, b_is_row_of_ends⟩
def F_is_right : Fn := ⟨3, 5, false, b_is_right⟩
def F_is_column : Fn := ⟨1, 7, false, b_is_column⟩
def F_need_column : Fn := ⟨1, 1, false, b_need_column⟩
def F_need_entries : Fn := ⟨1, 1, false, b_need_entries⟩
def F_need_manner : Fn := ⟨1, 1, false, b_need_manner⟩
def F_need_moving : Fn := ⟨1, 1, false, b_need_moving⟩
def F_need_end : Fn := ⟨2, 2, false, b_need_end⟩
def F_need_ends : Fn := ⟨1, 1, false, b_need_ends⟩
def F_need_unlike : Fn := ⟨1, 2, false, b_need_unlike⟩
def F_all_pieces : Fn := ⟨1, 7, false, b_all_pieces⟩
def F_pieces : Fn := ⟨1, 1, false, b_pieces⟩
def F_of_pieces : Fn := ⟨2, 5, false, b_of_pieces⟩
def F_around : Fn := ⟨2, 8, false, b_around⟩
def F_has_end : Fn := ⟨2, 4, false, b_has_end⟩
def F_pushing_swaps : Fn := ⟨2, 6, false, b_pushing_swaps⟩
def F_swapping_swaps : Fn := ⟨2, 5, false, b_swapping_swaps⟩
def F_all_swaps : Fn := ⟨3, 9, false, b_all_swaps⟩
def F_changed : Fn := ⟨2, 5, false, b_changed⟩
def F_steady : Fn := ⟨2, 8, false, b_steady⟩
def F_with_end : Fn := ⟨3, 5, false, b_with_end⟩
def F_cut_at : Fn := ⟨3, 3, false, b_cut_at⟩
def F_cut : Fn := ⟨3, 3, false, b_cut⟩
def F_cut_row : Fn := ⟨3, 4, false, b_cut_row⟩
def F_cut_all : Fn := ⟨3, 3, false, b_cut_all⟩
def F_looks : Fn := ⟨2, 6, false, b_looks⟩
def F_stretch : Fn := ⟨3, 6, false, b_stretch⟩
def F_need_question : Fn := ⟨2, 2, false, b_need_question⟩
def F_asked : Fn := ⟨4, 4, false, b_asked⟩
def F_plain_answer : Fn := ⟨3, 5, false, b_plain_answer⟩
def F_grown : Fn := ⟨2, 2, false, b_grown⟩
def F_built : Fn := ⟨1, 3, false, b_built⟩
def F_in_order : Fn := ⟨1, 1, false, b_in_order⟩
def F_ahead : Fn := ⟨1, 1, false, b_ahead⟩
def F_has_form : Fn := ⟨2, 2, false, b_has_form⟩
def F_is_tree : Fn := ⟨1, 3, false, b_is_tree⟩
def F_need_tree : Fn := ⟨1, 1, false, b_need_tree⟩
def F_need_two : Fn := ⟨3, 3, false, b_need_two⟩
def F_is_alike : Fn := ⟨3, 3, false, b_is_alike⟩
def F_alike : Fn := ⟨3, 3, false, b_alike⟩
def F_shows_parting : Fn := ⟨4, 4, false, b_shows_parting⟩
def F_need_rows : Fn := ⟨2, 2, false, b_need_rows⟩
def F_exchanged : Fn := ⟨2, 2, false, b_exchanged⟩
def F_all_exchanges : Fn := ⟨2, 9, false, b_all_exchanges⟩
def F_exchanges : Fn := ⟨2, 2, false, b_exchanges⟩
def F_shows_exchanges : Fn := ⟨3, 6, false, b_shows_exchanges⟩
def F_joined : Fn := ⟨2, 6, false, b_joined⟩
def F_joined_tree : Fn := ⟨2, 4, false, b_joined_tree⟩
def F_replays : Fn := ⟨3, 7, false, b_replays⟩
def F_swaps_of : Fn := ⟨3, 3, false, b_swaps_of⟩
def F_need_cut : Fn := ⟨3, 3, false, b_need_cut⟩
def F_swaps : Fn := ⟨3, 3, false, b_swaps⟩
def F_broken : Fn := ⟨4, 4, false, b_broken⟩
def F_need_counts : Fn := ⟨1, 2, false, b_need_counts⟩
def F_sum_looks : Fn := ⟨2, 3, false, b_sum_looks⟩
def F_tree_looks : Fn := ⟨2, 2, false, b_tree_looks⟩
def F_all_looks : Fn := ⟨2, 11, false, b_all_looks⟩
def F_least_looks : Fn := ⟨1, 1, false, b_least_looks⟩
def F_is_table : Fn := ⟨2, 6, false, b_is_table⟩
def F_shows_below : Fn := ⟨2, 7, false, b_shows_below⟩
def F_sizes : Fn := ⟨1, 1, false, b_sizes⟩
def F_forest_count : Fn := ⟨1, 4, false, b_forest_count⟩
def F_without : Fn := ⟨2, 4, false, b_without⟩
def F_tops : Fn := ⟨1, 3, false, b_tops⟩
def F_first_of : Fn := ⟨1, 1, false, b_first_of⟩
def F_order_at : Fn := ⟨2, 6, false, b_order_at⟩
def F_tree_count : Fn := ⟨2, 8, false, b_tree_count⟩
def F_spread : Fn := ⟨4, 12, false, b_spread⟩
def F_all_done : Fn := ⟨3, 6, false, b_all_done⟩
def F_worked : Fn := ⟨3, 4, false, b_worked⟩
def F_moves : Fn := ⟨3, 3, false, b_moves⟩
def F_is_hand : Fn := ⟨1, 2, false, b_is_hand⟩
def F_all_woven : Fn := ⟨4, 8, false, b_all_woven⟩
def F_woven : Fn := ⟨4, 6, false, b_woven⟩
def F_finished : Fn := ⟨4, 6, false, b_finished⟩
def F__law_taken : Fn := ⟨2, 4, true, b__law_taken⟩
def F__law_pick : Fn := ⟨2, 2, true, b__law_pick⟩
def F_law : Fn := ⟨1, 6, false, b_law⟩
def code0 : List Fn := [F_is_in, F_is_pair, F_is_entry, F_is_entries, F_is_end, F_is_row_of_ends, F_is_right, F_is_column, F_need_column, F_need_entries, F_need_manner, F_need_moving, F_need_end, F_need_ends, F_need_unlike, F_all_pieces, F_pieces, F_of_pieces, F_around, F_has_end, F_pushing_swaps, F_swapping_swaps, F_all_swaps, F_changed, F_steady]
def code1 : List Fn := [F_with_end, F_cut_at, F_cut, F_cut_row, F_cut_all, F_looks, F_stretch, F_need_question, F_asked, F_plain_answer, F_grown, F_built, F_in_order, F_ahead, F_has_form, F_is_tree, F_need_tree, F_need_two, F_is_alike, F_alike, F_shows_parting, F_need_rows, F_exchanged, F_all_exchanges, F_exchanges]
def code2 : List Fn := [F_shows_exchanges, F_joined, F_joined_tree, F_replays, F_swaps_of, F_need_cut, F_swaps, F_broken, F_need_counts, F_sum_looks, F_tree_looks, F_all_looks, F_least_looks, F_is_table, F_shows_below, F_sizes, F_forest_count, F_without, F_tops, F_first_of, F_order_at, F_tree_count, F_spread, F_all_done, F_worked]
def code3 : List Fn := [F_moves, F_is_hand, F_all_woven, F_woven, F_finished, F__law_taken, F__law_pick, F_law]
def code : List Fn := code0 ++ code1 ++ code2 ++ code3
end Ev.K22
/-! ### the head's hook over addresses gathered with a bit for each one seen -/
namespace Ev
open PySem PySem.Spec PyProof.Rows L2
/-- seen so far, found in this round -/
def seeA (b : Nat × List Addr) (a : Addr) : Nat × List Addr := match Nat.beq (Nat.land (Nat.shiftRight b.1 a) 1) 1 with
  | true => b
  | false => (Nat.lor b.1 (Nat.shiftLeft 1 a), a :: b.2)
def rfA (g : Addr → Option Obj) (a : Addr) : List Addr := match g a with
  | some o => He.refsD o
  | none => []
def rndA (g : Addr → Option Obj) (b : Nat × List Addr) : Nat × List Addr := b.2.foldl (fun b a => (rfA g a).foldl seeA b) (b.1, [])
/-- rounds from some addresses -/
def reachA (g : Addr → Option Obj) : Nat → Nat × List Addr → List Addr
  | 0, b => b.2
  | n + 1, b => b.2 ++ reachA g n (rndA g b)
/-- the parts of the classes' own __init__ -/
def iniA (g : Addr → Option Obj) (K : PySem.W.Frag) (xs : List Str) : List Addr := xs.flatMap fun x => match PySem.W.nsIn K mainGlobals x with
  | some (some (.ref c)) => (match PySem.W.findIn K (.ref c) "__init__" with
    | some (some (.ref f)) => f :: rfA g f
    | _ => [])
  | _ => []
def asY (g : Addr → Option Obj) (xs : List Str) : List Addr := reachA g 3 (seeA (0, []) mainGlobals) ++ iniA g (He.frT g (reachA g 3 (seeA (0, []) mainGlobals))) xs
def obsY (xs : List Str) (fa : List He.Fa) (fn : List He.DefD) (ts : List He.Tab) (tf : List He.Defn) (ex : PySem.W.Frag → Bool) (g : Addr → Option Obj) : He.AlX :=
  (He.obsT fa fn ts (He.frT g (asY g xs)), ex (He.frT g (asY g xs)) && He.tabsB g tf (He.frT g (asY g xs)))
theorem says_of {fa : List He.Fa} {fn : List He.DefD} {ts : List He.Tab} {tf : List He.Defn} {ex : PySem.W.Frag → Bool} {w : World} {h : Heap} {as : List Addr}
    (e1 : He.obsT fa fn ts (He.frT h.get? as) = He.valT fn ts w) (e2 : (ex (He.frT h.get? as) && He.tabsB h.get? tf (He.frT h.get? as)) = true) : He.SaysX fa fn ts tf ex w h (He.frT h.get? as) := by
  rw [Bool.and_eq_true] at e2
  have tb : ∀ p ∈ tf, PySem.W.codeHdIn (He.frT h.get? as) (He.cT (He.frT h.get? as) p).1 (He.cT (He.frT h.get? as) p).2 = true ∧ ∃ o, h.get? (He.cT (He.frT h.get? as) p).2 = some o ∧ He.emptyTab o = true := by
    intro p hp
    have z := List.all_eq_true.mp e2.2 p hp
    rw [Bool.and_eq_true] at z
    refine ⟨z.1, ?_⟩
    revert z
    cases h.get? (He.cT (He.frT h.get? as) p).2 with
    | none => exact fun z => absurd z.2 (by decide)
    | some o => exact fun z => ⟨o, rfl, z.2⟩
  constructor
  · exact e1
  · exact e2.1
  · exact fun p hp => (tb p hp).1
  · intro p hp
    obtain ⟨_, o, q, z⟩ := tb p hp
    exact He.frT_none q z
  · intro p hp
    obtain ⟨_, o, q, z⟩ := tb p hp
    exact q.trans (congrArg some (He.emptyTab_eq z))
def hookY (xs : List Str) (fa : List He.Fa) (fn : List He.DefD) (ts : List He.Tab) (tf : List He.Defn) (ex : PySem.W.Frag → Bool) : PySem.W.Hook where
  α := He.AlX
  obs := fun s => obsY xs fa fn ts tf ex s.heap.get?
  val := fun w => He.valX fn ts w
  says := fun w h => ∃ K : PySem.W.Frag, K.In h ∧ He.SaysX fa fn ts tf ex w h K
  of := fun _ _ e => ⟨_, He.frT_in, says_of (congrArg Prod.fst e) (congrArg Prod.snd e)⟩
  keeps := fun _ _ _ ⟨K, hK, c⟩ k => ⟨K, hK.keeps k, { t := c.t, more := c.more, hd := c.hd, out := c.out, empty := fun p hp => k _ _ (c.empty p hp) }⟩
theorem obsY_eq {xs : List Str} {fa : List He.Fa} {fn : List He.DefD} {ts : List He.Tab} {tf : List He.Defn} {ex : PySem.W.Frag → Bool} {g : Addr → Option Obj} {s : Shared} (h : ∀ a, g a = s.heap.get? a) : obsY xs fa fn ts tf ex g = (hookY xs fa fn ts tf ex).obs s := by
  obtain rfl : g = s.heap.get? := funext h
  rfl
/-- the run in parts -/
theorem run_parts {r : PySem.W.OpenRow} {q : Program} {xs : List Str} {fa : List He.Fa} {fn : List He.DefD} {ts : List He.Tab} {tf : List He.Defn} {ex : PySem.W.Frag → Bool} {ob : PySem.W.SharedT → He.AlX} {M : Nat} {loose : List PySem.Str} {w : World}
    (h1 : (HandSHeadRun.wholeF (fun p => HandSHeadRun.stepQ (HandSHeadRun.denQ HandSHeadRun.tabQ) p w) HandSHeadRun.fenceQ M r.prog).map (fun x => (HandSHeadRun.looksF r.prog x.1.heap x.2.abs, HandSHeadRun.seenQ q loose (PySem.importedModules r.prog.main.body) (fun s => PySem.W.xlAt q [] s && PySem.W.recOk r.toRowW.records s) x.2.abs)) = some (true, PySem.W.openGood q loose))
    (h2 : (HandSHeadRun.wholeF (fun p => HandSHeadRun.stepQ (HandSHeadRun.denQ HandSHeadRun.tabQ) p w) HandSHeadRun.fenceQ M r.prog).map (fun x => (ob x.2).1) = some (He.valX fn ts w).1)
    (h3 : (HandSHeadRun.wholeF (fun p => HandSHeadRun.stepQ (HandSHeadRun.denQ HandSHeadRun.tabQ) p w) HandSHeadRun.fenceQ M r.prog).map (fun x => (ob x.2).2) = some (He.valX fn ts w).2) : HandSHeadRun.RunEqI r q (hookY xs fa fn ts tf ex) ob M loose w := by
  unfold HandSHeadRun.RunEqI
  revert h1 h2 h3
  cases HandSHeadRun.wholeF (fun p => HandSHeadRun.stepQ (HandSHeadRun.denQ HandSHeadRun.tabQ) p w) HandSHeadRun.fenceQ M r.prog with
  | none => exact fun z => nomatch z
  | some x =>
    intro h1 h2 h3
    have e : ob x.2 = He.valX fn ts w := Prod.ext (Option.some.inj h2) (Option.some.inj h3)
    have e1 := Prod.mk.inj (Option.some.inj h1)
    show some (_, _, ob x.2) = _
    rw [e, e1.1, e1.2]
    rfl
end Ev
namespace Ev.K22
open PySem PySem.Spec PyProof.Rows L2
def names0 : List PySem.Str := ["ColumnError", "BadColumn", "BadEntries", "BadManner", "BadEnd", "BadEnds", "BadTree", "BadCounts", "BadNumber", "BadChanges", "BadHands", "BadTurns", "TooMany", "MOST_ROW", "MOST_VALUE", "MOST_ENTRIES", "MOST_ENDS", "MANNERS", "is_in", "is_pair", "is_entry", "is_entries", "is_end", "is_row_of_ends", "is_right"]
def names1 : List PySem.Str := ["is_column", "need_column", "need_entries", "need_manner", "need_moving", "need_end", "need_ends", "need_unlike", "all_pieces", "pieces", "of_pieces", "around", "has_end", "pushing_swaps", "swapping_swaps", "all_swaps", "changed", "steady", "with_end", "cut_at", "cut", "cut_row", "cut_all", "looks", "stretch"]
def names2 : List PySem.Str := ["need_question", "asked", "plain_answer", "grown", "built", "in_order", "ahead", "has_form", "is_tree", "need_tree", "PARTED", "need_two", "is_alike", "alike", "shows_parting", "need_rows", "exchanged", "all_exchanges", "exchanges", "shows_exchanges", "joined", "joined_tree", "replays", "MOST_MANY", "swaps_of"]
def names3 : List PySem.Str := ["need_cut", "swaps", "broken", "MOST_COUNT", "MOST_COUNTS", "need_counts", "sum_looks", "tree_looks", "all_looks", "least_looks", "is_table", "shows_below", "MOST_FEW", "MOST_LOOKS", "sizes", "forest_count", "without", "tops", "first_of", "order_at", "tree_count", "spread", "MOST_DEEDS", "Session", "all_done"]
def names4 : List PySem.Str := ["worked", "moves", "MOST_HANDS", "MOST_WISHES", "MOST_TURNS", "Weaving", "is_hand", "all_woven", "woven", "finished", "_law_taken", "_law_pick", "_law_told"]
def names : List PySem.Str := names0 ++ names1 ++ names2 ++ names3 ++ names4
abbrev RW : PySem.W.OpenLaw := PySem.Challenge.rw_askcuts_k22_order_of_errors
abbrev R : PySem.W.OpenRow := PySem.W.OpenLaw.row RW
abbrev fas : List He.Fa := faOf gs defs
abbrev dds : List He.DefD := defs.map DefI.dd ++ (inis.map IniI.dd ++ [tol.dd])
abbrev exl : PySem.W.Frag → Bool := fun K => exAll gs defs K && tldB tol K
abbrev xsI : List PySem.Str := inis.map IniI.x
abbrev hk : PySem.W.Hook := hookY xsI fas dds [] (tfOf defs) exl
def ob (s : PySem.W.SharedT) : He.AlX := obsY xsI fas dds [] (tfOf defs) exl (HandSHeadRun.getT s)
theorem ob_eq (s : PySem.W.SharedT) : ob s = hk.obs s.abs := obsY_eq (HandSHeadRun.getT_eq s)
set_option maxHeartbeats 0 in
theorem run1 (w : World) : (HandSHeadRun.wholeF (fun p => HandSHeadRun.stepQ (HandSHeadRun.denQ HandSHeadRun.tabQ) p w) HandSHeadRun.fenceQ 20000 R.prog).map (fun x => (HandSHeadRun.looksF R.prog x.1.heap x.2.abs, HandSHeadRun.seenQ (PySem.W.view R.prog [0, 126]) names (PySem.importedModules R.prog.main.body) (fun s => PySem.W.xlAt (PySem.W.view R.prog [0, 126]) [] s && PySem.W.recOk R.toRowW.records s) x.2.abs)) = some (true, PySem.W.openGood (PySem.W.view R.prog [0, 126]) names) := by
  kernel_rfl
set_option maxHeartbeats 0 in
theorem run2 (w : World) : (HandSHeadRun.wholeF (fun p => HandSHeadRun.stepQ (HandSHeadRun.denQ HandSHeadRun.tabQ) p w) HandSHeadRun.fenceQ 20000 R.prog).map (fun x => (ob x.2).1) = some (He.valX dds [] w).1 := by
  kernel_rfl
set_option maxHeartbeats 0 in
theorem run3 (w : World) : (HandSHeadRun.wholeF (fun p => HandSHeadRun.stepQ (HandSHeadRun.denQ HandSHeadRun.tabQ) p w) HandSHeadRun.fenceQ 20000 R.prog).map (fun x => (ob x.2).2) = some (He.valX dds [] w).2 := by
  kernel_rfl
theorem run (w : World) : HandSHeadRun.RunEqI R (PySem.W.view R.prog [0, 126]) (hookY xsI fas dds [] (tfOf defs) exl) ob 20000 names w :=
  @run_parts R (PySem.W.view R.prog [0, 126]) xsI fas dds [] (tfOf defs) exl ob 20000 names w (run1 w) (run2 w) (run3 w)
end Ev.K22
/-! ### sorted of a tuple of ints, of pairs of ints (after the rules for lists) -/
namespace SrtT
open PySem PyProof.Rows Srt SrtO
section
variable {prog : Program} {w : World} {A : Around} {E : Value → Shared → Prop} {s : Shared}
theorem collect_tup {l : Addr} {vs : List Value} {Q : List Value → Shared → Prop} (hl : IsTup s.heap l vs.toArray)
    (h : Q vs { s with heap := (s.heap.push (seqObj "list" #[] 0)).update s.heap.objs.size (Obj.mapSeq (· ++ vs.toArray)) }) (hsz : vs.length ≤ sizeLine) :
    wpAny (model prog w) A (collect (.ref l)) Q E s := by
  obtain ⟨o, ho, hc, n, hd⟩ := id hl
  unfold collect
  refine wpAny_bind (wpAny_runValue (codeAny_builtin entry_proto_collect' ?_))
  show wpAny _ _ (do again (.builtin "list.__iadd__" ⟨[← newList [], .ref l], []⟩)) _ _ s
  refine wpAny_bind (wpAny_newList (wpAny_pure ⟨Code.quiet_builtin _ (by decide +kernel), codeAny_builtin entry_list_iadd' ?_⟩))
  show wpAny _ _ (Builtin.List.listExtendWith (.ref s.heap.objs.size) (.ref l) (.ref s.heap.objs.size)) _ _ { s with heap := s.heap.push (seqObj "list" #[] 0) }
  unfold Builtin.List.listExtendWith
  have ho' : (s.heap.push (seqObj "list" #[] 0)).get? l = some o := Heap.get?_push_of_some _ ho
  refine wpAny_bind (wpAny_typeOf (T := "tuple") ⟨o, ho', hc⟩ ?_)
  have ht : (Value.type "tuple" == Value.type "tuple") = true := by rfl
  rw [if_pos (by rw [ht]; simp)]
  refine wpAny_bind (listItems_at ho' hd ?_)
  refine wpAny_bind (listItems_at (xs := #[]) (n := 0) (Heap.get?_push_size _ rfl) rfl ?_)
  rw [if_neg (by simp)]
  refine wpAny_bind (listUpdate_at (xs := #[]) (n := 0) (Heap.get?_push_size _ rfl) rfl ?_ (Nat.zero_le _) (by show (#[] ++ vs.toArray).size ≤ sizeLine + 1; simp only [Array.size_append, List.size_toArray, List.length_nil]; omega))
  refine wpAny_pure ?_
  show wpAny (model prog w) A (do
      let o ← load s.heap.objs.size
      match o.data with
      | .seq xs _ => pure xs.toList
      | _ => unsupported "internal:collect") Q E { s with heap := (s.heap.push (seqObj "list" #[] 0)).update s.heap.objs.size (Obj.mapSeq (· ++ vs.toArray)) }
  refine wpAny_bind (wpAny_load (get?_update_seq (Heap.get?_push_size _ rfl) _) ?_)
  show wpAny _ _ (pure ((#[] : Array Value) ++ vs.toArray).toList) Q E _
  rw [show ((#[] : Array Value) ++ vs.toArray).toList = vs by simp]
  exact wpAny_pure h
theorem sorted_ordT {l : Addr} {vs : List Value} {ltv : Value → Value → Bool} {Q : Value → Shared → Prop} (O : Swo ltv) (hl : IsTup s.heap l vs.toArray) (hz : vs.length ≤ sizeLine)
    (hS : 2 ≤ vs.length → ∀ (h₁ : Heap) (a : Addr), h₁.get? a = some (seqObj "list" vs.toArray 0) → (∀ b o, s.heap.get? b = some o → b ≠ a ∧ h₁.get? b = some o) → SortableO prog w A.in1.in1 { s with heap := h₁ } a vs ltv)
    (h : ∀ out : List Value, Srtd ltv out → Stb ltv out vs → Q (.ref (s.heap.objs.size + 1)) { s with heap := sortedAll s.heap vs out.toArray }) :
    wpAny (model prog w) A (call (.builtin "sorted") [.ref l]) Q E s := by
  refine Calls.call_function_entry kind_sorted plain_sorted entry_sorted (args_sorted1 _) ?_
  unfold Builtin.«sorted»
  refine wpAny_bind (m := checkCount "sorted" 1 1 _) (wpAny_pure ?_)
  refine wpAny_bind (collect_tup hl ?_ hz)
  refine wpAny_bind (wpAny_newList ?_ hz)
  have hsz : ((s.heap.push (seqObj "list" #[] 0)).update s.heap.objs.size (Obj.mapSeq (· ++ vs.toArray))).objs.size = s.heap.objs.size + 1 := by
    rw [Heap.size_update, size_push']
  have hoL : (((s.heap.push (seqObj "list" #[] 0)).update s.heap.objs.size (Obj.mapSeq (· ++ vs.toArray))).push (seqObj "list" vs.toArray 0)).get? (s.heap.objs.size + 1) = some (seqObj "list" vs.toArray 0) := by
    rw [← hsz]; exact Heap.get?_push_size _ rfl
  have keep : ∀ b o, s.heap.get? b = some o → b ≠ s.heap.objs.size + 1 ∧ (((s.heap.push (seqObj "list" #[] 0)).update s.heap.objs.size (Obj.mapSeq (· ++ vs.toArray))).push (seqObj "list" vs.toArray 0)).get? b = some o := fun b o q => by
    have hlt : b < s.heap.objs.size := Heap.lt_size q
    refine ⟨Nat.ne_of_lt (Nat.lt_succ_of_lt hlt), Heap.get?_push_of_some _ ?_⟩
    rw [Heap.get?_update_ne _ _ _ _ (Nat.ne_of_lt hlt)]
    exact Heap.get?_push_of_some _ q
  show wpAny _ _ _ _ _ { s with heap := ((s.heap.push (seqObj "list" #[] 0)).update s.heap.objs.size (Obj.mapSeq (· ++ vs.toArray))).push (seqObj "list" vs.toArray 0) }
  rw [hsz]
  refine wpAny_bind (wpAny_holding (wpAny_call_entry slot_list_sort ⟨_, hoL, rfl⟩ entry_list_sort (list_sort_ord O hoL hz (fun h2 => hS h2 _ _ hoL keep) fun out hs hb => ⟨_, rfl, ?_⟩) (args_list_sort _)))
  exact wpAny_pure ⟨_, rfl, h out hs hb⟩
theorem sorted_pairsT {l : Addr} {vs : List Value} {k : Value → Int × Int} {Q : Value → Shared → Prop} (hl : IsTup s.heap l vs.toArray) (hz : vs.length ≤ sizeLine) (hp : ∀ v ∈ vs, IsPair s.heap v (k v).1 (k v).2)
    (h : ∀ (h' : Heap) (d : Addr) (out : List Value), Srtd (fun v u => lexB (k v) (k u)) out → Stb (fun v u => lexB (k v) (k u)) out vs → (∀ b o, s.heap.get? b = some o → h'.get? b = some o) → s.heap.objs.size ≤ d → (∃ n, h'.get? d = some (seqObj "list" out.toArray n)) → Q (.ref d) { s with heap := h' }) :
    wpAny (model prog w) A (call (.builtin "sorted") [.ref l]) Q E s := by
  refine sorted_ordT (swo_lex k) hl hz (fun h2 h₁ a ha kk => ?_) fun out hs hb => ?_
  · refine pairs_sortableO (s := { s with heap := h₁ }) (by omega) (fun v hm => (hp v hm).keeps fun b o e _ => (kk b o e).2) fun o e => ?_
    have e' : some o = some (seqObj "list" vs.toArray 0) := e.symm.trans ha
    cases e'
    intro c
    exact absurd (Value.type.inj c) (by decide)
  · exact h _ _ out hs hb (fun b o e => sortedAll_old e) (Nat.le_succ _) (sortedAll_at s.heap vs out.toArray)
end
end SrtT
namespace L2
open PySem PySem.Spec PyProof.Rows
def rSortedIT (K : PySem.W.Frag) : List V → Hp → VK → Prop := fun vs H Q => ∃ (a : Addr) (ns : List Int), vs = [V.ref a] ∧ SqT K H a (ns.map V.int) ∧
  ∀ (ns' : List Int) (p : Addr), ns'.Perm ns → ns'.Pairwise (· ≤ ·) → H p = none → Q (.ref p) (upd H p (.lst (ns'.map V.int)))
def rSortedPOT (K : PySem.W.Frag) : List V → Hp → VK → Prop := fun vs H Q => ∃ (a : Addr) (xs : List V) (k : V → Int × Int), vs = [V.ref a] ∧ SqT K H a xs ∧ (∀ x ∈ xs, ∃ t, x = V.ref t ∧ H t = some (.tup [.int (k x).1, .int (k x).2])) ∧
  ∀ ys p, SrtO.Srtd (ltP k) ys → SrtO.Stb (ltP k) ys xs → H p = none → Q (.ref p) (upd H p (.lst ys))
section
variable {X : Cx}
theorem cr_sortedIT : CallR X (.builtin "sorted") (rSortedIT X.K) := by
  intro pins s σ H vs us Q I r h
  obtain ⟨a, ns, rfl, hs, q⟩ := h
  obtain ⟨its, rv, hl, hz⟩ := I.tuple hs
  rw [Vals.ref1 r]
  have hi := rv.ints
  refine SrtT.sorted_ordT SrtO.swo_int hl (by rw [← rv.length]; exact hz) (fun h2 h₁ a' _ _ => SrtO.ints_sortable hi h2) fun out h1 h2 => ?_
  obtain ⟨k1, k2, k3⟩ := SrtO.ints_out hi h1 h2
  obtain ⟨ep, he'⟩ := PyProof.Rows.sortedAll_at s.heap its out.toArray
  have hlen : ((out.map SrtO.iv).map V.int).length ≤ sizeLine := by
    rw [List.length_map, k2.length_eq]
    rw [List.length_map] at hz
    exact hz
  exact ⟨.ref _, upd H (s.heap.objs.size + 1) (.lst ((out.map SrtO.iv).map V.int)), I.laid (t' := s.toks) (fun _ _ => PyProof.Rows.sortedAll_old) (Nat.le_succ _) ⟨hlen, out, ep, vals_of_ints k1, he'⟩, rfl, q _ _ k2 k3 (I.hok.fresh (Nat.le_succ _))⟩
theorem cr_sortedPOT : CallR X (.builtin "sorted") (rSortedPOT X.K) := by
  intro pins s σ H vs us Q I r h
  obtain ⟨a, xs, k, rfl, hs, hx, q⟩ := h
  obtain ⟨its, rv, hl, hz⟩ := I.tuple hs
  obtain ⟨u, rfl, ru⟩ := vals1 r
  obtain rfl : u = Value.ref a := ru
  obtain ⟨e1, e2⟩ := refs_back rv fun x m => by
    obtain ⟨t, e, _⟩ := hx x m
    exact ⟨t, e⟩
  refine SrtT.sorted_pairsT (k := fun u => k (backV u)) hl (by rw [← rv.length]; exact hz) (fun v hv => ?_) fun h' d out h1 h2 kp hd hn => ?_
  · obtain ⟨t, rfl⟩ := e2 v hv
    have hm : V.ref t ∈ xs := by rw [e1]; exact List.mem_map.mpr ⟨_, hv, rfl⟩
    obtain ⟨t', e, ht⟩ := hx _ hm
    cases e
    obtain ⟨_, its2, r2, o, ho, hc, n, hd⟩ := I.hok _ _ ht
    obtain ⟨u1, u2, rfl, ri, rj⟩ := vals2 r2
    obtain ⟨t1, rfl⟩ := ri
    obtain ⟨t2, rfl⟩ := rj
    exact ⟨t, o, t1, t2, n, rfl, ho, hc, hd⟩
  · have h3 : ∀ u ∈ out, ∃ a, u = Value.ref a := fun u hu => e2 u (h2.perm.mem_iff.mp hu)
    obtain ⟨n, hn⟩ := hn
    have hb : SrtO.Stb (ltP k) (out.map backV) xs := by
      rw [e1]
      exact SrtO.Stb.map (ltP_swo k) backV h2
    refine ⟨.ref d, upd H d (.lst (out.map backV)), I.laid (t' := s.toks) kp hd ⟨?_, out, n, vals_back h3, hn⟩, rfl, q _ d (SrtO.srtd_map h1) hb (I.hok.fresh hd)⟩
    rw [hb.len]
    exact hz
end
end L2
/-! ### tuples known to have no dict of their own: laid as locked objects; dict() of a tuple of pairs -/
namespace PT
open PySem PySem.Spec PyProof.Rows L2
/-- at p stands a tuple of xs, its object known and bare -/
def PlT (H : Hp) (p : Addr) (xs : List V) : Prop := ∃ o : Obj, o.dict = none ∧ H p = some (.frz o (.tup xs))
theorem PlT.sq {K : PySem.W.Frag} {H : Hp} {p : Addr} {xs : List V} (h : PlT H p xs) : SqT K H p xs := let ⟨o, _, e⟩ := h; .inl (.inr ⟨o, e⟩)
theorem PlT.mono {H H' : Hp} {p : Addr} {xs : List V} (h : PlT H p xs) (e : ∀ b o, H b = some o → H' b = some o) : PlT H' p xs := let ⟨o, d, k⟩ := h; ⟨o, d, e _ _ k⟩
/-- a new one -/
def NewT (H : Hp) (xs : List V) (Q : VK) : Prop := ∀ (p : Addr) (o : Obj), H p = none → o.dict = none → Q (.ref p) (upd H p (.frz o (.tup xs)))
section
variable {X : Cx} {es : List Expr} {t : TA} {pos : Pos}
theorem laidT {pins : List (Addr × Obj)} {σ : L2.St} {H : Hp} {s : Shared} {h' : Heap} {tk : Nat} {xs : List V} {its : List Value} {p : Addr} {o : Obj} {n : Nat} {Q : VK} (I : Inv X pins σ H s) (k : ∀ b u, s.heap.get? b = some u → h'.get? b = some u) (hp : s.heap.objs.size ≤ p)
    (z : xs.length ≤ sizeLine) (r : Vals xs its) (ho : h'.get? p = some o) (hc : o.cls = .type "tuple") (hd : o.data = .seq its.toArray n) (hn : o.dict = none) (q : NewT H xs Q) : ∃ v H', Inv X pins σ H' { s with heap := h', toks := tk } ∧ RelV v (.ref p) ∧ Q v H' :=
  ⟨.ref p, upd H p (.frz o (.tup xs)), I.laid (t' := tk) k hp ⟨ho, z, its, r, ⟨o, ho, hc, n, hd⟩⟩, rfl, q p o (I.hok.fresh hp) hn⟩
theorem pe_tupP {kx} (h : PA X es t) : PE X (.Tuple es kx pos) (fun σ H Q => t σ H fun vs H1 => vs.length ≤ sizeLine ∧ NewT H1 vs Q) :=
  ⟨fun pins s σ H Q I hq => wpAny_Tuple_spliced (thn (h.run pos pins s σ H _ I hq) fun us s1 ⟨xs, H1, I1, r, z, q⟩ => ⟨by rw [← r.length]; exact z,
    laidT (tk := s1.toks) (n := 0) I1 (fun b u e => Heap.get?_push_of_some _ e) (Nat.le_refl _) z r (Heap.get?_push_size _ rfl) rfl rfl rfl q⟩)⟩
theorem cr_tupP : CallR X (.type "tuple") (fun xs H Q => ∃ p ys, xs = [.ref p] ∧ ((SqL X.K H p ys ∧ NewT H ys Q) ∨ (SqT X.K H p ys ∧ Q (.ref p) H))) := by
  intro pins s σ H xs us Q I r h
  obtain ⟨p, ys, rfl, ⟨hq, q⟩ | ⟨hq, q⟩⟩ := h
  all_goals obtain ⟨u, rfl, rx⟩ := vals1 r; cases rx
  · obtain ⟨its, r', pl, hz⟩ := I.list hq
    have hlen := r'.length
    exact call_tuple_list pl.isList (fun h' kp => laidT (s := { s with heap := h' }) (tk := s.toks) (n := 0) (I.kept (t' := s.toks) kp) (fun b o e => Heap.get?_push_of_some _ e) (Nat.le_refl _) hz r' (Heap.get?_push_size _ rfl) rfl rfl rfl q) (by simp only [List.size_toArray] <;> omega)
  · obtain ⟨its, r', pl, hz⟩ := I.tuple hq
    exact call_tuple_same pl ⟨.ref p, H, I, rfl, q⟩
def rCatP (K : PySem.W.Frag) : R2 := fun x y H Q => ∃ a b xs ys, x = .ref a ∧ y = .ref b ∧ SqT K H a xs ∧ SqT K H b ys ∧ xs.length + ys.length ≤ sizeLine ∧
  (xs = [] → Q (.ref b) H) ∧ (xs ≠ [] → ys = [] → Q (.ref a) H) ∧ (xs ≠ [] → ys ≠ [] → NewT H (xs ++ ys) Q)
theorem op_catP : OpR X (binaryOp .Add) (rCatP X.K) := by
  intro pins s σ H x y v u Q I rx ry ⟨a, b, xs, ys, ex, ey, ha, hb, hz, q0, q1, q2⟩
  subst ex ey
  cases rx; cases ry
  obtain ⟨its, r1, p1, _⟩ := I.tuple ha
  obtain ⟨its2, r2, p2, _⟩ := I.tuple hb
  by_cases hx : xs = []
  · subst hx
    cases r1
    exact cat_tup0 p1 p2 ⟨.ref b, H, I, rfl, q0 rfl⟩
  · exact HT.cat_tup p1 p2 (fun z => hx (r1.nil_iff.mp z)) (fun z => ⟨.ref a, H, I, rfl, q1 hx (r2.nil_iff.mp z)⟩) (fun z => laidT (tk := s.toks) (n := 0) I (fun b ob q => Heap.get?_push_of_some _ q) (Nat.le_refl _) (by rw [List.length_append]; exact hz) (r1.append r2) (Heap.get?_push_size _ rfl) rfl rfl rfl (q2 hx fun w => z (r2.nil_iff.mpr w))) (by rw [← r1.length, ← r2.length]; exact hz)
def rSlP (K : PySem.W.Frag) : V → Option Int → Option Int → Hp → VK → Prop := fun x lo hi H Q => ∃ a xs, x = .ref a ∧ SqT K H a xs ∧
  (HT.sIx xs.length 0 lo = 0 ∧ HT.sIx xs.length xs.length hi = xs.length → Q (.ref a) H) ∧ (¬ (HT.sIx xs.length 0 lo = 0 ∧ HT.sIx xs.length xs.length hi = xs.length) → NewT H (cutV xs lo hi) Q)
theorem sl_tupP : SlR X (rSlP X.K) := by
  intro pins s σ H x v vl vu lo hi sl Q I rx hs pl pu ⟨a, xs, ex, hx, q1, q2⟩
  subst ex
  cases rx
  obtain ⟨its, r, ht, hz⟩ := I.tuple hx
  have hlen : its.toArray.size = xs.length := List.size_toArray.trans r.length.symm
  refine ⟨"tuple", _, PyProof.Rows.slot_tuple_getitem.lookup, ht.typeIs, ?_⟩
  by_cases hw : HT.sIx xs.length 0 lo = 0 ∧ HT.sIx xs.length xs.length hi = xs.length
  · exact getItem_tuple_whole ht hs pl pu (by rw [hlen] <;> exact hw) ⟨.ref a, H, I, rfl, q1 hw⟩
  · refine HT.getItem_tuple_cut ht hs pl pu (by rw [hlen] <;> exact hw) ?_ (by rw [hlen] <;> exact hz)
    rw [hlen]
    exact laidT (tk := s.toks) (n := 0) I (fun b ob q => Heap.get?_push_of_some _ q) (Nat.le_refl _) (Nat.le_trans (cutV_length xs lo hi) hz) ((r.drop (HT.sIx xs.length 0 lo)).take (HT.sIx xs.length xs.length hi - HT.sIx xs.length 0 lo)) (Heap.get?_push_size _ rfl) rfl rfl rfl (q2 hw)
def rRepP (K : PySem.W.Frag) : R2 := fun x y H Q => ∃ l k xs, x = .ref l ∧ y = .int k ∧ SqT K H l xs ∧ xs ≠ [] ∧ 2 ≤ k ∧ k ≤ 1000 ∧ xs.length ≤ 1000 ∧ NewT H (List.replicate k.toNat xs).flatten Q
theorem op_repP : OpR X (binaryOp .Mult) (rRepP X.K) := by
  intro pins s σ H x y v u Q I rx ry ⟨l, k, xs, ex, ey, hT, hne, h1, h2, hz, q⟩
  subst ex ey
  cases rx
  obtain ⟨t, rfl⟩ := ry
  obtain ⟨its, r, ⟨⟨cls, dd, data, sl⟩, ho, hc, n, hd⟩, hs⟩ := I.tuple hT
  simp only at hc hd; subst hc hd
  have hle : its.length = xs.length := r.length.symm
  have hn : its ≠ [] := fun e => hne (List.eq_nil_of_length_eq_zero (hle.symm.trans (by rw [e] <;> rfl)))
  have hi : its.toArray.isEmpty = false := by cases its <;> first | exact absurd rfl hn | rfl
  have hsz0 : its.toArray.size = xs.length := List.size_toArray.trans hle
  have hm : ((its.toArray.size : Nat) : Int) * k ≤ 1000000 := by
    rw [hsz0]; exact Int.le_trans (Int.mul_le_mul_of_nonneg_right (show ((xs.length : Nat) : Int) ≤ 1000 by omega) (by omega)) (by omega)
  have fl : ∀ m : Nat, m = xs.length → k.toNat * m ≤ sizeLine := fun m e => by rw [sizeLine_eq, e]; exact Nat.le_trans (Nat.mul_le_mul (show k.toNat ≤ 1000 by omega) hz) (by decide)
  have c0 : (decide (k < -(2 ^ 63)) || decide (k ≥ 2 ^ 63)) = false := by simp; omega
  have c1 : (its.toArray.isEmpty || k == 1) = false := by rw [hi, Bool.false_or]; simp; omega
  have c2 : (decide (k ≤ 0) || its.toArray.isEmpty) = false := by rw [hi, Bool.or_false]; simp; omega
  have c4 : Builtin.Tuple.tupleTooMany (((its.toArray.size : Nat) : Int) * k) = false := by unfold Builtin.Tuple.tupleTooMany; rw [sizeLine_eq]; exact decide_eq_false (by omega)
  refine wpAny_binaryOp_repeat_ref (T := "tuple") (U := "int") (by decide) ⟨_, ho, rfl⟩ (fun s' => typeIs_int s' k t) noFill_tuple_mul F.fills_int_mul F.slot_int_rmul repeat_tuple F.slot_int_index.lookup (call_meets F.slot_int_rmul (typeIs_int s k t) F.entry_int_rmul (F.args_int_rmul_2 _ _) (int_rmul_tuple k t l its.toArray n dd sl) ⟨ho, rfl, ⟨_, ho, rfl⟩, call_meets F.slot_tuple_mul ⟨_, ho, rfl⟩ F.entry_tuple_mul (F.args_tuple_mul_2 _ _) (tuple_mulW l its.toArray n dd sl k t c0 c1 c2 (by omega) c4 (by rw [size_rep, List.size_toArray, PyProof.Rows.lm_len_rep_flat]; exact fl _ hle)) ⟨ho, ?_⟩⟩)
  rw [size_rep]
  exact laidT (tk := s.toks) (n := 0) I (fun b ob q => Heap.get?_push_of_some _ q) (Nat.le_refl _) (by rw [PyProof.Rows.lm_len_rep_flat]; exact fl _ rfl) (r.rep k.toNat) (Heap.get?_push_size _ rfl) rfl rfl rfl q
/-! #### sorted -/
/-- the pairs that the values stand for -/
def PrV (H : Hp) (xs : List V) (k : V → Int × Int) : Prop := ∀ x ∈ xs, ∃ t, x = V.ref t ∧ PlT H t [.int (k x).1, .int (k x).2]
theorem pr_obj {pins : List (Addr × Obj)} {σ : L2.St} {H : Hp} {s : Shared} {xs : List V} {its : List Value} {k : V → Int × Int} (I : Inv X pins σ H s) (hx : PrV H xs k) (e1 : xs = its.map backV) (e2 : ∀ v ∈ its, ∃ a, v = Value.ref a) : ∀ v ∈ its, Srt.IsPair s.heap v (k (backV v)).1 (k (backV v)).2 := fun v hv => by
  obtain ⟨t, rfl⟩ := e2 v hv
  obtain ⟨t', e, ob, _, ht⟩ := hx (V.ref t) (by rw [e1]; exact List.mem_map.mpr ⟨_, hv, rfl⟩)
  cases e
  obtain ⟨_, _, its2, r2, o, ho, hc, n, hd⟩ := I.hok _ _ ht
  obtain ⟨u1, u2, rfl, ⟨t1, rfl⟩, ⟨t2, rfl⟩⟩ := vals2 r2
  exact ⟨t, o, t1, t2, n, rfl, ho, hc, hd⟩
theorem pr_out {pins : List (Addr × Obj)} {σ : L2.St} {H : Hp} {s : Shared} {xs : List V} {its out : List Value} {k : V → Int × Int} {h' : Heap} {d : Addr} {Q : VK} (I : Inv X pins σ H s) (e1 : xs = its.map backV) (e2 : ∀ v ∈ its, ∃ a, v = Value.ref a) (hz : xs.length ≤ sizeLine)
    (h1 : SrtO.Srtd (fun v u => SrtO.lexB (k (backV v)) (k (backV u))) out) (h2 : SrtO.Stb (fun v u => SrtO.lexB (k (backV v)) (k (backV u))) out its) (kp : ∀ b o, s.heap.get? b = some o → h'.get? b = some o) (hd : s.heap.objs.size ≤ d) (hn : ∃ n, h'.get? d = some (seqObj "list" out.toArray n))
    (q : ∀ ys p, SrtO.Srtd (ltP k) ys → SrtO.Stb (ltP k) ys xs → H p = none → Q (.ref p) (upd H p (.lst ys))) : ∃ v H', Inv X pins σ H' { s with heap := h', toks := s.toks } ∧ RelV v (.ref d) ∧ Q v H' := by
  have h3 : ∀ u ∈ out, ∃ a, u = Value.ref a := fun u hu => e2 u (h2.perm.mem_iff.mp hu)
  obtain ⟨n, hn⟩ := hn
  have hb : SrtO.Stb (ltP k) (out.map backV) xs := by rw [e1]; exact SrtO.Stb.map (ltP_swo k) backV h2
  exact ⟨.ref d, upd H d (.lst (out.map backV)), I.laid (t' := s.toks) kp hd ⟨by rw [hb.len]; exact hz, out, n, vals_back h3, hn⟩, rfl, q _ d (SrtO.srtd_map h1) hb (I.hok.fresh hd)⟩
def rSrtL (K : PySem.W.Frag) : List V → Hp → VK → Prop := fun vs H Q => ∃ (a : Addr) (xs : List V) (k : V → Int × Int), vs = [V.ref a] ∧ SqL K H a xs ∧ PrV H xs k ∧ ∀ ys p, SrtO.Srtd (ltP k) ys → SrtO.Stb (ltP k) ys xs → H p = none → Q (.ref p) (upd H p (.lst ys))
def rSrtT (K : PySem.W.Frag) : List V → Hp → VK → Prop := fun vs H Q => ∃ (a : Addr) (xs : List V) (k : V → Int × Int), vs = [V.ref a] ∧ SqT K H a xs ∧ PrV H xs k ∧ ∀ ys p, SrtO.Srtd (ltP k) ys → SrtO.Stb (ltP k) ys xs → H p = none → Q (.ref p) (upd H p (.lst ys))
theorem cr_srtL : CallR X (.builtin "sorted") (rSrtL X.K) := by
  intro pins s σ H vs us Q I r ⟨a, xs, k, ev, hs, hx, q⟩
  subst ev
  obtain ⟨its, rv, hl, hz⟩ := I.list hs
  obtain ⟨u, rfl, ru⟩ := vals1 r
  obtain rfl : u = Value.ref a := ru
  obtain ⟨e1, e2⟩ := refs_back rv fun x m => (hx x m).imp fun t h => h.1
  exact SrtO.sorted_pairsO (k := fun u => k (backV u)) hl.isList (by rw [← rv.length]; exact hz) (pr_obj I hx e1 e2) fun h' d out h1 h2 kp hd hn => pr_out I e1 e2 hz h1 h2 kp hd hn q
theorem cr_srtT : CallR X (.builtin "sorted") (rSrtT X.K) := by
  intro pins s σ H vs us Q I r ⟨a, xs, k, ev, hs, hx, q⟩
  subst ev
  obtain ⟨its, rv, hl, hz⟩ := I.tuple hs
  obtain ⟨u, rfl, ru⟩ := vals1 r
  obtain rfl : u = Value.ref a := ru
  obtain ⟨e1, e2⟩ := refs_back rv fun x m => (hx x m).imp fun t h => h.1
  exact SrtT.sorted_pairsT (k := fun u => k (backV u)) hl (by rw [← rv.length]; exact hz) (pr_obj I hx e1 e2) fun h' d out h1 h2 kp hd hn => pr_out I e1 e2 hz h1 h2 kp hd hn q
/-! #### dict(t) -/
theorem pairs_there {pins : List (Addr × Obj)} {σ : L2.St} {H : Hp} {s : Shared} (I : Inv X pins σ H s) : ∀ {ps : List Addr} {kvs : List (Key × V)}, Paired (fun p kv => SqT X.K H p [kV kv.1, kv.2]) ps kvs →
    ∃ prs : List (Key × Value), KV kvs prs ∧ prs.length = ps.length ∧ ∀ (j : Nat) (q : Key × Value), prs[j]? = some q → ∃ (b : Addr) (u : Value), ps[j]? = some b ∧ IsTup s.heap b #[u, q.2] ∧ keyIs q.1 u = true := fun h => L2.pairs_of I h
def rDctT (K : PySem.W.Frag) : List V → Hp → VK → Prop := fun xs H Q => ∃ (a : Addr) (ps : List Addr) (kvs : List (Key × V)), xs = [.ref a] ∧ PlT H a (ps.map V.ref) ∧ Paired (fun p kv => SqT K H p [kV kv.1, kv.2]) ps kvs ∧ ∀ p, H p = none → Q (.ref p) (upd H p (.dK (mergeK [] kvs)))
theorem cr_dctT (hcalm : X.calm = true) : CallR X (.type "dict") (rDctT X.K) := by
  intro pins s σ H xs us Q I r ⟨a, ps, kvs, ex, ⟨o, hn, ho⟩, hp, q⟩
  subst ex
  obtain ⟨u, rfl, rx⟩ := vals1 r
  cases rx
  obtain ⟨g, hz, its, rv, o', ho', hc, n, hd⟩ := I.hok _ _ ho
  rw [g] at ho'
  cases ho'
  obtain rfl := refs_at rv
  rw [List.length_map] at hz
  obtain ⟨prs, rel, hl, hpr⟩ := pairs_there I hp
  have keyU : ∀ j (hj : j < prs.length), ∃ u : Value, ∃ b : Addr, ps[j]? = some b ∧ IsTup s.heap b #[u, prs[j].2] ∧ keyIs prs[j].1 u = true := fun j hj => by
    obtain ⟨b, u, e1, e2, e3⟩ := hpr j prs[j] (List.getElem?_eq_getElem hj)
    exact ⟨u, b, e1, e2, e3⟩
  let pv : List (Value × Value) := (List.finRange prs.length).map fun j => ((keyU j.1 j.2).choose, prs[j.1].2)
  have pvl : pv.length = prs.length := by simp [pv]
  have pvat : ∀ j k v, pv[j]? = some (k, v) → ∃ hj : j < prs.length, k = (keyU j hj).choose ∧ v = prs[j].2 := fun j k v e => by
    have hj : j < prs.length := by rw [← pvl]; exact (List.getElem?_eq_some_iff.mp e).1
    have e' : pv[j]? = some ((keyU j hj).choose, prs[j].2) := by simp [pv, hj]
    rw [e'] at e
    cases e
    exact ⟨hj, rfl, rfl⟩
  let A := PySem.PairArg.tuple (prog := X.prog) (w := X.w) a (ps.map Value.ref).toArray (fun j => ps.getD j 0) pv
  have ok : PySem.PlainSeq "tuple" s.heap a (ps.map Value.ref).toArray ∧ PySem.PairItems s.heap (ps.map Value.ref).toArray (fun j => ps.getD j 0) pv := by
    refine ⟨⟨o, n, g, hc, hn, hd⟩, by rw [pvl, hl]; simp, fun j k v e => ?_⟩
    obtain ⟨hj, ek, ev⟩ := pvat j k v e
    obtain ⟨b, e1, e2, e3⟩ := (keyU j hj).choose_spec
    have eb : ps.getD j 0 = b := by rw [List.getD_eq_getElem?_getD, e1]; rfl
    refine ⟨by simp [e1, eb], ?_⟩
    subst ek ev
    show PySem.PairAt s.heap (ps.getD j 0) _ _
    rw [eb]
    exact .inl e2
  refine PySem.call_dict_pairs (knd := mixKind X.prog X.w) (kvs := prs) A (I.ok.hd hcalm) ok ⟨pvl.symm ▸ rfl, fun i key v e => ?_⟩ (by rw [pvl, hl]; exact hz) fun h' tk hd' kp => ?_
  · obtain ⟨hj, ek, ev⟩ := pvat i key v e
    obtain ⟨b, e1, e2, e3⟩ := (keyU i hj).choose_spec
    refine ⟨prs[i].1, ?_, ?_⟩
    · rw [List.getElem?_eq_getElem hj, ev]
    · rw [ek]
      exact e3
  · have hm : (s.heap.objs.size == sysModules) = false := beq_eq_false_iff_ne.mpr (Nat.ne_of_gt I.big)
    have hlen : (mergeK [] kvs).length ≤ sizeLine := Nat.le_trans (length_mergeK kvs []) (by rw [List.length_nil, Nat.zero_add, rel.length, hl]; exact hz)
    exact ⟨.ref s.heap.objs.size, upd H s.heap.objs.size (.dK (mergeK [] kvs)), I.laid (t' := tk) (fun b o e => kp b o (by simp) e) (Nat.le_refl _) (show ObjOk X.prog X.w _ _ _ (.dK (mergeK [] kvs)) from ⟨hlen, hm, merged [] prs, KV.merge rel .nil, hd'⟩), rfl, q _ (I.hok.fresh (Nat.le_refl _))⟩
/-! #### d[k] -/
def rIxDct : R2 := fun x y H Q => ∃ a v, x = .ref a ∧ DGet H a y (some v) ∧ Q v H
theorem ix_dct (hu : X.A.units + 1 < cLine) : IxR X rIxDct := by
  intro value slice pins s σ H x y v u Q I rx ry ⟨a, z, ex, g, q⟩ hs
  subst ex
  obtain rfl : v = Value.ref a := rx
  have hT := dict_typeIs I g
  unfold subscriptTail
  refine wpAny_bind ?_
  rw [getitemInPython_of_ne hT.not_modules]
  have fin : wpAny (model X.prog X.w) X.A (subscripted slice false (.ref a) u) (fun r s₃ => wpAny (model X.prog X.w) X.A (letTemporaryGo value (.ref a) r >>= fun _ => pure r) (EP X pins σ Q) X.xe s₃) X.xe s := by
    rw [hs]
    exact wpAny_operating (wpAny_mono (d_getItem (Q := EP X pins σ Q) (E := X.xe) hu I g ry fun w' s' I' rw' => ⟨z, H, I', rw', q⟩) (fun r s₃ h₃ => wpAny_bind (wpAny_letTemporaryGo (wpAny_pure h₃))) fun _ _ x => x)
  exact wpAny_bind (wpAny_specialOf hT PySem.F.slot_dict_getitem.lookup (by first | exact wpAny_pure (wpAny_bind fin) | exact wpAny_bind (wpAny_pure (wpAny_bind fin)) | exact wpAny_bind fin))
end
end PT
/-! ### tuple(range(i, j, -1)) -/
namespace PT
open PySem PySem.Spec PyProof.Rows L2
def dnV (i : Int) (n : Nat) : List V := (List.range n).map fun k => V.int (i + (k : Nat) * (-1))
theorem vals_dn {i : Int} {n : Nat} {acc : Array Value} (h : ItemsOf (fun k v => ∃ t, v = .int (i + k * (-1)) t) acc n) : Vals (dnV i n) acc.toList := by
  have e : acc.toList.length = n := by rw [Array.length_toList]; exact h.1
  unfold dnV
  rw [← e]
  refine vals_of_get acc.toList _ fun j u hj => ?_
  obtain ⟨t, rfl⟩ := h.2 j u (by rw [← hj, Array.getElem?_toList])
  exact ⟨t, rfl⟩
def rTrg : List V → Hp → VK → Prop := fun vs H Q => ∃ i j : Int, vs = [.int i, .int j, .int (-1)] ∧ (-(2 ^ 62) ≤ i ∧ i < 2 ^ 62 ∧ -(2 ^ 62) ≤ j ∧ j < 2 ^ 62) ∧ (i - j).toNat ≤ 1000 ∧ NewT H (dnV i (i - j).toNat) Q
theorem pe_trg {X : Cx} {a b c : Expr} {ta : TA} {p pp pos pos2 : Pos} (hc : X.calm = true) (hg1 : Gl X "tuple") (hm1 : X.mg "tuple" = none) (hg : Gl X "range") (hm : X.mg "range" = none) (ha : PA X [a, b, c] ta)
    (hs : starEach [a, b, c] X.env = (false, eval a X.env) :: starEach [b, c] X.env) (hpl : (backTo pos2 (starEach [b, c] X.env)).any (·.1) = false)
    (na : starEach [.Call (.Name "range" pp) [a, b, c] [] pos2] X.env = (false, eval (.Call (.Name "range" pp) [a, b, c] [] pos2) X.env) :: starEach [] X.env := by rfl) :
    PE X (.Call (.Name "tuple" p) [.Call (.Name "range" pp) [a, b, c] [] pos2] [] pos) (tCB rTrg ta) := by
  refine ⟨fun pins s σ H Q I h => ?_⟩
  refine Call_ (ld_blt I hg1 hm1 boot_tuple (PyProof.Rows.callWith_type1 (args_cons (Call_ (ld_blt I hg hm boot_range (PyProof.Rows.callWith_type1 (thn (ha.run pos2 pins s σ H _ I h) fun us s1 ⟨vs, H1, I1, r1, q1⟩ => ?_) hs hpl))) na) na))
  obtain ⟨i, j, e, ⟨b1, b2, b3, b4⟩, b5, q⟩ := q1
  subst e
  obtain ⟨c0, c1, c2, c3⟩ := RgC.neg b1 b2 b3 b4
  cases r1 with
  | cons r rr =>
    cases rr with
    | cons r' rr =>
      cases rr with
      | cons r'' rr =>
        cases rr
        obtain ⟨t, rfl⟩ := r
        obtain ⟨t', rfl⟩ := r'
        obtain ⟨t'', rfl⟩ := r''
        refine call_range_3 c0 ?_ (.inl (PyProof.noPylong_small c1))
        have I2 : Inv X pins σ H1 { s1 with heap := s1.heap.push { cls := .type "range", data := .fields #[.int i t, .int j t', .int (-1) t''] } } := I1.kept (t' := s1.toks) fun b o e => Heap.get?_push_of_some _ e
        refine args_nil ?_
        refine call_tuple_range (n := (i - j).toNat) (I2.ok.hd hc) (IsRange.new ..) c2 c3 (by omega) fun h' tk acc hk hi => ?_
        have hv := vals_dn hi
        have hz : (dnV i (i - j).toNat).length ≤ sizeLine := by
          unfold dnV
          rw [List.length_map, List.length_range, sizeLine_eq]
          omega
        have I3 := I2.kept (t' := tk) hk
        exact laidT (s := { s1 with heap := h', toks := tk }) (tk := tk) (n := 0) I3 (fun c o e => Heap.get?_push_of_some _ e) (Nat.le_refl _) hz hv (Heap.get?_push_size _ rfl) rfl (by rw [Array.toArray_toList]) rfl q
/-! ### sorted(set(t)), t a tuple of ints -/
def rSetT (K : PySem.W.Frag) (w : World) : List V → Hp → VK → Prop := fun xs H Q => ∃ (p : Addr) (ns : List Int), xs = [.ref p] ∧ SqT K H p (ns.map V.int) ∧ ns.length ≤ 63 ∧ ∀ (q : Addr) (n : Nat), H q = none → n ≤ ns.length → Q (.ref q) (upd H q (SetO w q (fun j => decide (j ∈ ns)) n))
theorem cr_setT {X : Cx} (hc : X.calm = true) : CallR X (.type "set") (rSetT X.K X.w) := by
  intro pins s σ H xs us Q I r h
  obtain ⟨p, ns, rfl, hs, hl, q⟩ := h
  obtain ⟨u, rfl, rx⟩ := vals1 r
  cases rx
  obtain ⟨its, rv, pt, hz⟩ := I.tuple hs
  have hi : IntsAre its.toArray.toList ns := ints_of_vals rv
  refine call_set_tupI ns (I.ok.hd hc) (show s.heap.IsTuple p its.toArray from pt) hi (by unfold scanBound; omega) fun h' tk c R1 hcn k => ?_
  exact ⟨.ref _, upd H s.heap.objs.size (SetO X.w s.heap.objs.size (fun j => decide (j ∈ ns)) c), I.laid (t' := tk) k (Nat.le_refl _) (setO_new R1), rfl, q _ c (I.hok.fresh (Nat.le_refl _)) hcn⟩
def rSrtSet (K : PySem.W.Frag) (w : World) : List V → Hp → VK → Prop := fun vs H Q => rSetT K w vs H fun v H2 => rSortedSet w [v] H2 Q
theorem pe_sst {X : Cx} {a : Expr} {ta : TA} {p pp pos pos2 : Pos} (hc : X.calm = true) (hg1 : Gl X "sorted") (hm1 : X.mg "sorted" = none) (hg : Gl X "set") (hm : X.mg "set" = none) (ha : PA X [a] ta)
    (hs : starEach [a] X.env = (false, eval a X.env) :: starEach [] X.env)
    (na : starEach [.Call (.Name "set" pp) [a] [] pos2] X.env = (false, eval (.Call (.Name "set" pp) [a] [] pos2) X.env) :: starEach [] X.env := by rfl) :
    PE X (.Call (.Name "sorted" p) [.Call (.Name "set" pp) [a] [] pos2] [] pos) (tCB (rSrtSet X.K X.w) ta) :=
  have q := pe_callB (X := X) (p := p) (pos := pos) (cr_sortedSet hc) hg1 hm1 (by decide +kernel) (pa_cons (pe_callTy (p := pp) (pos := pos2) (cr_setT hc) hg hm (by decide +kernel) ha (by decide) (by decide) hs rfl) pa_nil na) (by decide) (by decide) na rfl
  ⟨fun pins s σ H Q I w => q.run pins s σ H Q I w⟩
end PT
/-! ### t[::-1] of a tuple (and of a list) -/
namespace PT
open PySem PySem.Spec PyProof.Rows L2
section
variable {prog : Program} {w : World} {A : Around} {E : Value → Shared → Prop} {s : Shared}
theorem sliceApplied_rev {sl : Addr} {vl vu vs : Value} {n : Nat} {Q : Int × Int × Nat → Shared → Prop} (hs : s.heap.IsSliceOf sl vl vu vs) (pl : IsPart vl none) (pu : IsPart vu none) (ps : IsPart vs (some (-1)))
    (h : Q ((n : Int) - 1, -1, n) s) : wpAny (model prog w) A (Builtin.Slice.sliceApplied (.ref sl) (pure (n : Int))) Q E s := by
  obtain ⟨os, hos, hcs, hds⟩ := id hs
  unfold Builtin.Slice.sliceApplied Builtin.Slice.sliceFields
  refine wpAny_bind (wpAny_bind (wpAny_field hos hds (x := vl) rfl (wpAny_bind (wpAny_field hos hds (x := vu) rfl (wpAny_bind (wpAny_field hos hds (x := vs) rfl (wpAny_pure ?_)))))))
  refine wpAny_bind (HT.slicePart_ ps ?_)
  show wpAny _ _ (if ((-1 : Int) == 0) = true then _ else _) _ _ s
  rw [if_neg (by decide)]
  refine wpAny_bind (HT.slicePart_ pl (wpAny_bind (HT.slicePart_ pu (wpAny_bind (wpAny_pure ?_)))))
  show wpAny _ _ (match Builtin.Slice.sliceAdjust none none (-1) (n : Int) with | (lo, hi) => pure (lo, (-1 : Int), Builtin.Slice.slicePlaces lo hi (-1))) _ _ s
  have e : Builtin.Slice.sliceAdjust none none (-1) (n : Int) = ((n : Int) - 1, -1) := rfl
  rw [e]
  show wpAny _ _ (pure ((n : Int) - 1, (-1 : Int), Builtin.Slice.slicePlaces ((n : Int) - 1) (-1) (-1))) _ _ s
  have e2 : Builtin.Slice.slicePlaces ((n : Int) - 1) (-1) (-1) = n := by
    unfold Builtin.Slice.slicePlaces
    rw [if_neg (by decide)]
    by_cases h : (n : Int) - 1 > -1
    · rw [if_pos h]
      have e3 : ((n : Int) - 1 - -1 - 1) / (- -1) = (n : Int) - 1 := by
        rw [show (- -1 : Int) = 1 from rfl, Int.ediv_one]
        omega
      rw [e3]
      omega
    · rw [if_neg h]
      omega
  rw [e2]
  exact wpAny_pure h
theorem pick_rev (xs : Array Value) : ((List.range xs.size).filterMap fun (m : Nat) => xs[(((xs.size : Nat) : Int) - 1 + (m : Int) * (-1)).toNat]?).toArray = xs.toList.reverse.toArray := by
  congr 1
  have key : ∀ (l : List Nat) (ys : List Value), l.map (fun (m : Nat) => xs[(((xs.size : Nat) : Int) - 1 + (m : Int) * (-1)).toNat]?) = ys.map some → (l.filterMap fun (m : Nat) => xs[(((xs.size : Nat) : Int) - 1 + (m : Int) * (-1)).toNat]?) = ys := by
    intro l ys h
    have := congrArg (List.filterMap id) h
    rw [List.filterMap_map, List.filterMap_map] at this
    have e1 : (id ∘ fun (m : Nat) => xs[(((xs.size : Nat) : Int) - 1 + (m : Int) * (-1)).toNat]?) = fun (m : Nat) => xs[(((xs.size : Nat) : Int) - 1 + (m : Int) * (-1)).toNat]? := rfl
    have e2 : (id ∘ (some : Value → Option Value)) = some := rfl
    rw [e1, e2, List.filterMap_some] at this
    exact this
  refine key _ _ ?_
  refine List.ext_getElem (by simp) fun i h1 h2 => ?_
  have hi : i < xs.size := by simpa using h1
  have e : (((xs.size : Nat) : Int) - 1 + (i : Int) * (-1)).toNat = xs.size - 1 - i := by omega
  rw [List.getElem_map, List.getElem_range, List.getElem_map, List.getElem_reverse, e, Array.getElem?_eq_getElem (by omega)]
  simp
theorem getItem_tuple_rev {t sl : Addr} {items : Array Value} {vl vu vs : Value} {Q : Value → Shared → Prop} (ht : IsTup s.heap t items) (hs : s.heap.IsSliceOf sl vl vu vs) (pl : IsPart vl none) (pu : IsPart vu none) (ps : IsPart vs (some (-1)))
    (h : Q (.ref s.heap.objs.size) { s with heap := s.heap.push { cls := .type "tuple", data := .seq items.toList.reverse.toArray } })
    (hsz : items.size ≤ sizeLine) : wpAny (model prog w) A (getItem (.ref t) (.ref sl)) Q E s := by
  have htake : sizeOk (.seq items.toList.reverse.toArray) := by
    show items.toList.reverse.toArray.size ≤ sizeLine
    rw [List.size_toArray, List.length_reverse, Array.length_toList]
    exact hsz
  obtain ⟨os, hos, hcs, hds⟩ := id hs
  have hTs : s.TypeIs (.ref sl) "slice" := ⟨os, hos, hcs⟩
  unfold getItem
  try with_reducible refine wpAny_holding ?_
  first | refine wpAny_bind (wpAny_pure ?_) | skip
  refine wpAny_bind (wpAny_sequenceKey ht.typeIs (by decide) ?_)
  refine wpAny_bind (wpAny_callSpecial?_slot (name := Str.ofString "__getitem__") ht.typeIs PyProof.Rows.slot_tuple_getitem
    (wpAny_call_entry PyProof.Rows.slot_tuple_getitem ht.typeIs entry_tuple_getitem ?_ (args_tuple_getitem _ _)))
  show wpAny _ _ (Builtin.Tuple.tupleItemsOf (.ref t) >>= _) _ _ s
  refine wpAny_bind (tupleItemsOf_ ht ?_)
  refine wpAny_bind (wpAny_typeOf hTs ?_)
  rw [if_pos (by decide)]
  refine wpAny_bind (sliceApplied_rev hs pl pu ps ?_)
  have hno : ¬ (((((items.size : Nat) : Int) - 1) == 0 && (-1 : Int) == 1 && (items.size) == items.size) = true) := by
    intro q
    rw [Bool.and_eq_true, Bool.and_eq_true] at q
    exact absurd q.1.2 (by decide)
  show wpAny _ _ (if ((((items.size : Nat) : Int) - 1) == 0 && (-1 : Int) == 1 && (items.size) == items.size) = true then _ else _) _ _ s
  rw [if_neg hno, pick_rev]
  first
    | exact wpAny_bind (m := Builtin.Tuple.tupleExact _) (wpAny_newObj_type (wpAny_pure ⟨_, rfl, wpAny_pure h⟩) htake)
    | exact wpAny_bind (m := Builtin.Tuple.tupleExact _) (wpAny_newObj_type (wpAny_bind (wpAny_pure (wpAny_pure ⟨_, rfl, wpAny_pure h⟩))) htake)
    | exact wpAny_bind (wpAny_bind (m := Builtin.Tuple.tupleExact _) (wpAny_newObj_type (wpAny_pure (wpAny_pure ⟨_, rfl, wpAny_pure h⟩)) htake))
    | exact wpAny_bind (wpAny_bind (m := Builtin.Tuple.tupleExact _) (wpAny_newObj_type (wpAny_pure ⟨_, rfl, wpAny_pure h⟩) htake))
end
def tRevA (K : PySem.W.Frag) (te : TE) : TE := fun σ H Q => te σ H fun x H1 => ∃ a xs, x = .ref a ∧ ((SqL K H1 a xs ∧ ∀ p, H1 p = none → Q (.ref p) (upd H1 p (.lst xs.reverse))) ∨ (SqT K H1 a xs ∧ NewT H1 xs.reverse Q))
theorem pe_revA {X : Cx} {e : Expr} {te : TE} {k : Nat} {p1 p2 p3 pos : Pos} (he : PE X e te) : PE X (.Subscript e (.Slice none none (some (.UnaryOp .USub (.Constant (.int 1) k p1) p2)) p3) pos) (tRevA X.K te) := by
  refine ⟨fun pins s σ H Q I h => ?_⟩
  refine Subscript_ (thn (he.run pins s σ H _ I h) fun v s1 ⟨x, H1, I1, r1, q1⟩ => ?_)
  obtain ⟨a, xs, ex, hx⟩ := q1
  subst ex
  cases r1
  have hst : PO X (some (.UnaryOp .USub (.Constant (.int 1) k p1) p2)) (tPart (tUn (rU fun i => .int (-i)) (tC (.int 1)))) := po_some (pe_un un_neg pe_int)
  refine wpAny_Slice (thn (po_none.run pins s1 σ H1 (fun o H2 => o = none ∧ H2 = H1) I1 ⟨rfl, rfl⟩) fun vl s2 ⟨l, H2, I2, pl, el, e2⟩ => ?_)
  subst el e2
  refine thn (po_none.run pins s2 σ H2 (fun o H3 => o = none ∧ H3 = H2) I2 ⟨rfl, rfl⟩) fun vu s3 ⟨u, H3, I3, pu, eu, e3⟩ => ?_
  subst eu e3
  refine thn (hst.run pins s3 σ H3 (fun o H4 => o = some (-1) ∧ H4 = H3) I3 ⟨1, rfl, -1, rfl, rfl, rfl⟩) fun vs s4 ⟨o, H4, I4, ps, eo, e4⟩ => ?_
  subst eo e4
  have I5 : Inv X pins σ H4 { s4 with heap := s4.heap.push { cls := .type "slice", data := .fields #[vl, vu, vs] } } := I4.kept (t' := s4.toks) fun b ob q => Heap.get?_push_of_some _ q
  show wpAny (model X.prog X.w) X.A (subscriptTail e (.Slice none none (some (.UnaryOp .USub (.Constant (.int 1) k p1) p2)) p3) (.ref a) (.ref s4.heap.objs.size)) (EP X pins σ Q) X.xe { s4 with heap := s4.heap.push { cls := .type "slice", data := .fields #[vl, vu, vs] } }
  rcases hx with ⟨hx, q⟩ | ⟨hx, q⟩
  · obtain ⟨its, r, ht, hz⟩ := I5.list hx
    have hlen := r.length
    refine tail_any (ops := [.ref a, .ref s4.heap.objs.size]) ht.isList.typeIs (PySem.slot_list_getitem.lookup) ?_ (by with_unfolding_all rfl)
    refine wpAny_getItem_list_slice ht.isList (Heap.IsSliceOf.new _ vl vu vs) pl pu ps (by decide) ?_ (by rw [List.size_toArray]; omega)
    rw [PySem.W.krv_pick]
    refine ⟨.ref _, _, I5.laid (t' := s4.toks) (o := .lst xs.reverse) (fun b ob q => Heap.get?_push_of_some _ q) (Nat.le_refl _) ?_, rfl, q _ (I5.hok.fresh (Nat.le_refl _))⟩
    exact ⟨by rw [List.length_reverse]; exact hz, _, 0, r.reverse, Heap.get?_push_size _ rfl⟩
  · obtain ⟨its, r, ht, hz⟩ := I5.tuple hx
    have hlen := r.length
    refine tail_any (ops := [.ref a, .ref s4.heap.objs.size]) ht.typeIs (PyProof.Rows.slot_tuple_getitem.lookup) ?_ (by with_unfolding_all rfl)
    refine getItem_tuple_rev ht (Heap.IsSliceOf.new _ vl vu vs) pl pu ps ?_ (by rw [List.size_toArray]; omega)
    exact laidT (tk := s4.toks) (n := 0) I5 (fun b ob q => Heap.get?_push_of_some _ q) (Nat.le_refl _) (by rw [List.length_reverse]; exact hz) r.reverse (Heap.get?_push_size _ rfl) rfl (by simp) rfl q
/-! ### len(set(xs)), xs a list of ints -/
theorem fm_sp (f : Nat → Int) : ∀ n, (PyProof.Rows.firstMet f n).Nodup ∧ ∀ k, k ∈ PyProof.Rows.firstMet f n ↔ ∃ i, i < n ∧ f i = k
  | 0 => ⟨List.nodup_nil, fun k => ⟨fun h => (by cases h), fun ⟨i, h, _⟩ => absurd h (Nat.not_lt_zero _)⟩⟩
  | n + 1 => by
    obtain ⟨h1, h2⟩ := fm_sp f n
    rw [PyProof.Rows.firstMet_succ]
    show (if (PyProof.Rows.firstMet f n).any (· == f n) then PyProof.Rows.firstMet f n else PyProof.Rows.firstMet f n ++ [f n]).Nodup ∧ ∀ k, k ∈ (if (PyProof.Rows.firstMet f n).any (· == f n) then PyProof.Rows.firstMet f n else PyProof.Rows.firstMet f n ++ [f n]) ↔ _
    by_cases c : (PyProof.Rows.firstMet f n).any (· == f n) = true
    · rw [if_pos c]
      obtain ⟨y, hy, ey⟩ := List.any_eq_true.mp c
      have ey : y = f n := eq_of_beq ey
      subst ey
      refine ⟨h1, fun k => ⟨fun h => ?_, fun ⟨i, hi, e⟩ => ?_⟩⟩
      · obtain ⟨i, hi, e⟩ := (h2 k).mp h
        exact ⟨i, by omega, e⟩
      · by_cases z : i = n
        · subst z
          rw [← e]
          exact hy
        · exact (h2 k).mpr ⟨i, by omega, e⟩
    · rw [if_neg c]
      have hn : f n ∉ PyProof.Rows.firstMet f n := fun z => c (List.any_eq_true.mpr ⟨_, z, beq_self_eq_true _⟩)
      refine ⟨?_, fun k => ?_⟩
      · rw [List.nodup_append]
        refine ⟨h1, by simp, fun a ha b hb => ?_⟩
        rw [List.mem_singleton] at hb
        subst hb
        exact fun z => hn (z ▸ ha)
      · rw [List.mem_append, List.mem_singleton, h2]
        constructor
        · rintro (⟨i, hi, e⟩ | rfl)
          · exact ⟨i, by omega, e⟩
          · exact ⟨n, by omega, rfl⟩
        · rintro ⟨i, hi, e⟩
          by_cases z : i = n
          · subst z; exact .inr e.symm
          · exact .inl ⟨i, by omega, e⟩
def rLns (K : PySem.W.Frag) : List V → Hp → VK → Prop := fun xs H Q => ∃ (l : Addr) (ns : List Int), xs = [.ref l] ∧ SqL K H l (ns.map V.int) ∧ ns.length ≤ 4000 ∧ ∀ m : List Int, m.Nodup → (∀ k, k ∈ m ↔ k ∈ ns) → Q (.int (m.length : Nat)) H
theorem pe_lns {X : Cx} {a : Expr} {ta : TA} {p p2 q pos : Pos} (hc : X.calm = true) (hg : Gl X "len") (hm : X.mg "len" = none) (hg2 : Gl X "set") (hm2 : X.mg "set" = none) (ha : PA X [a] ta)
    (hs : starEach [a] X.env = (false, eval a X.env) :: starEach [] X.env)
    (na : starEach [.Call (.Name "set" p2) [a] [] q] X.env = (false, eval (.Call (.Name "set" p2) [a] [] q) X.env) :: starEach [] X.env := by rfl) : PE X (.Call (.Name "len" p) [.Call (.Name "set" p2) [a] [] q] [] pos) (tCB (rLns X.K) ta) := by
  refine ⟨fun pins s σ H Q I h => ?_⟩
  refine Call_ (ld_blt I hg hm boot_len ?_)
  refine PyProof.Rows.callWith_builtin1 (PyProof.Rows.args_cons ?_ na) na rfl
  refine Call_ (ld_blt I hg2 hm2 boot_set ?_)
  refine PyProof.Rows.callWith_type1 (thn (ha.run q pins s σ H _ I h) fun us s1 ⟨vs, H1, I1, r1, q1⟩ => ?_) hs rfl
  obtain ⟨l, ns, rfl, hq, hl, q1⟩ := q1
  obtain ⟨u, rfl, rx⟩ := vals1 r1
  cases rx
  obtain ⟨its, r, pl, hz⟩ := I1.list hq
  have hlen : its.toArray.size = ns.length := by rw [List.size_toArray, ← r.length, List.length_map]
  refine call_set_list (I1.ok.hd hc) pl.isList (by simpa using RZ.intsAre_vals r) (by rw [hlen]; unfold scanBound; omega) fun h' tk hS hk => ?_
  refine PyProof.Rows.args_nil ?_
  rw [hlen] at hS
  obtain ⟨f1, f2⟩ := fm_sp (fun i => ns.getD i 0) ns.length
  have hb : (PyProof.Rows.firstMet (fun i => ns.getD i 0) ns.length).length ≤ ns.length := by
    have : ∀ n, (PyProof.Rows.firstMet (fun i => ns.getD i 0) n).length ≤ n := by
      intro n
      induction n with
      | zero => exact Nat.le_refl _
      | succ n ih =>
        rw [PyProof.Rows.firstMet_succ]
        show (if (PyProof.Rows.firstMet (fun i => ns.getD i 0) n).any (· == ns.getD n 0) then PyProof.Rows.firstMet (fun i => ns.getD i 0) n else PyProof.Rows.firstMet (fun i => ns.getD i 0) n ++ [ns.getD n 0]).length ≤ n + 1
        split
        · omega
        · rw [List.length_append]; show _ + 1 ≤ n + 1; omega
    exact this _
  have q2 := q1 _ f1 fun k => by
    rw [f2]
    constructor
    · rintro ⟨i, hi, e⟩
      rw [List.getD_eq_getElem?_getD, List.getElem?_eq_getElem hi] at e
      rw [← e]
      exact List.getElem_mem hi
    · intro hk
      obtain ⟨i, hi, e⟩ := List.mem_iff_getElem.mp hk
      refine ⟨i, hi, ?_⟩
      rw [List.getD_eq_getElem?_getD, List.getElem?_eq_getElem hi]
      exact e
  generalize PyProof.Rows.firstMet (fun i => ns.getD i 0) ns.length = m at *
  obtain ⟨o, es, ep, t, ho, hex, hd, _, _, _, hf, hn⟩ := hS
  have I2 : Inv X pins σ H1 { s1 with heap := h', toks := tk } := I1.kept fun b o e => hk b o (Heap.lt_size e) e
  exact call_len_set ho hex hd hf (by rw [hn] <;> omega) ⟨.int m.length, H1, I2.tok _, ⟨_, by rw [hn]⟩, q2⟩
/-! ### () * k -/
theorem tuple_mul0 (l : Addr) (items : Array Value) (n : Nat) (dd : Option Addr) (sl : Array (Option Value)) (x : Int) (u : Tok) (c0 : (decide (x < -(2 ^ 63)) || decide (x ≥ 2 ^ 63)) = false) (c1 : (items.isEmpty || x == 1) = true) :
    Meets (Builtin.«tuple.__mul__» ⟨[.ref l, .int x u], []⟩) (fun _ R s => s.heap.get? l = some { cls := .type "tuple", dict := dd, data := .seq items n, slots := sl } ∧ R (.ok (.ret (Value.ref l))) s) :=
  .of_wp fun prog w A R s h => by
    obtain ⟨hp, g, d, tk, os⟩ := s
    obtain ⟨hl, h⟩ := h
    have f1 := AutoSeq1.idx_int
    wp_walk using wpAny_loadPart' hl
    refine wpAny_ite_false (decide_eq_false (by rw [c0]; exact Bool.false_ne_true)) ?_
    wp_walk using wpAny_loadPart' hl
    exact ⟨_, rfl, h⟩
def rRep0 (K : PySem.W.Frag) : R2 := fun x y H Q => ∃ l k, x = .ref l ∧ y = .int k ∧ SqT K H l [] ∧ 2 ≤ k ∧ k ≤ 1000 ∧ Q (.ref l) H
theorem op_rep0 {X : Cx} : OpR X (binaryOp .Mult) (rRep0 X.K) := by
  intro pins s σ H x y v u Q I rx ry ⟨l, k, ex, ey, hT, h1, h2, q⟩
  subst ex ey
  cases rx
  obtain ⟨t, rfl⟩ := ry
  obtain ⟨its, r, ⟨⟨cls, dd, data, sl⟩, ho, hc, n, hd⟩, hs⟩ := I.tuple hT
  simp only at hc hd; subst hc hd
  cases r
  have c0 : (decide (k < -(2 ^ 63)) || decide (k ≥ 2 ^ 63)) = false := by simp; omega
  have c1 : (([] : List Value).toArray.isEmpty || k == 1) = true := rfl
  refine wpAny_binaryOp_repeat_ref (T := "tuple") (U := "int") (by decide) ⟨_, ho, rfl⟩ (fun s' => typeIs_int s' k t) noFill_tuple_mul F.fills_int_mul F.slot_int_rmul repeat_tuple F.slot_int_index.lookup (call_meets F.slot_int_rmul (typeIs_int s k t) F.entry_int_rmul (F.args_int_rmul_2 _ _) (int_rmul_tuple k t l _ n dd sl) ⟨ho, rfl, ⟨_, ho, rfl⟩, call_meets F.slot_tuple_mul ⟨_, ho, rfl⟩ F.entry_tuple_mul (F.args_tuple_mul_2 _ _) (tuple_mul0 l _ n dd sl k t c0 c1) ⟨ho, ?_⟩⟩)
  exact ⟨.ref l, H, I, rfl, q⟩
end PT
/-! ### dicts whose keys are tuples of ints, the tuples tracked bare -/
namespace PT
open PySem PySem.Spec PyProof.Rows L2
abbrev KEnt := List Int × Addr × Value
def entT (x : KEnt) : DictEntry := ⟨reduceHash (Builtin.Tuple.tupleHashOf (x.1.map hashInt)), .ref x.2.1, x.2.2⟩
def DT (a : Addr) (xs : List KEnt) (h : Heap) : Prop := xs.length ≤ sizeLine ∧ (a == sysModules) = false ∧ ∃ o es ep, h.get? a = some o ∧ o.ExactDict ∧ o.data = .dict es ep ∧ es.toList = xs.map entT ∧ (xs.map (·.1)).Nodup
def dtO (a : Addr) (xs : List KEnt) : HO := .ext (DT a xs)
def KeysT (H : Hp) (xs : List KEnt) : Prop := ∀ x ∈ xs, PlT H x.2.1 (x.1.map V.int)
theorem KeysT.mono {H H' : Hp} {xs : List KEnt} (h : KeysT H xs) (e : ∀ b o, H b = some o → H' b = some o) : KeysT H' xs := fun x m => (h x m).mono e
section
variable {P : Program} {w : World} {H : Hp} {h : Heap} {a b : Addr} {xs : List KEnt} {ks : List Int}
theorem int_items : ∀ {ks : List Int} {us : List Value}, Vals (ks.map V.int) us → ItemsAre (PySem.intKind P w) ks us
  | [], _, r => by rw [List.map_nil] at r; cases r; exact .nil
  | k :: ks, _, r => by
    rw [List.map_cons] at r
    cases r with
    | cons h t =>
      obtain ⟨t', rfl⟩ := h
      exact .cons (by simp [PySem.intKind, Value.isInt]) (int_items t)
theorem keyT_of (ok : HOk P w H h) (e : PlT H b (ks.map V.int)) : (tupleKind (PySem.intKind P w)).is h ks b := by
  obtain ⟨o, _, e⟩ := e
  obtain ⟨_, _, its, r, o', h1, h2, n, h3⟩ := (show ObjOk P w H h b (.frz o (.tup (ks.map V.int))) from ok b _ e)
  exact ⟨o', its.toArray, n, h1, h2, h3, by simpa using int_items r⟩
theorem ent_eq (x : KEnt) : entryOfKey (tupleKind (PySem.intKind P w)) x = entT x := rfl
theorem dT_of (ok : HOk P w H h) (e : H a = some (dtO a xs)) (k : KeysT H xs) : xs.length ≤ sizeLine ∧ (a == sysModules) = false ∧ h.DictOfH (tupleKind (PySem.intKind P w)) a xs := by
  obtain ⟨⟨z, y, o, es, ep, h1, h2, h3, h4, h5⟩, _, _⟩ := (show ObjOk P w H h a (.ext (DT a xs)) from ok a _ e)
  exact ⟨z, y, o, es, ep, h1, h2, h3, h4, fun x m => keyT_of ok (k x m), h5⟩
theorem dT_new {H' : Hp} (z : xs.length ≤ sizeLine) (y : (a == sysModules) = false) (d : h.DictOfH (tupleKind (PySem.intKind P w)) a xs) : ObjOk P w H' h a (dtO a xs) := by
  obtain ⟨o, es, ep, h1, h2, h3, h4, _, h5⟩ := d
  refine ⟨⟨z, y, o, es, ep, h1, h2, h3, h4, h5⟩, ⟨o, h1⟩, fun ha hb ⟨z, y, o, es, ep, h1, h2, h3, h4, h5⟩ k => ⟨z, y, o, es, ep, k _ h1, h2, h3, h4, h5⟩⟩
end
section
variable {X : Cx} {pins : List (Addr × Obj)} {σ : L2.St} {H : Hp} {s : Shared} {a b : Addr} {y v : V} {u r : Value} {A : Around} {E : Value → Shared → Prop} {xs : List KEnt} {ks : List Int}
/-- d[k] -/
def rIxDT : R2 := fun x y H Q => ∃ (a b : Addr) (ks : List Int) (xs : List KEnt) (p : Addr × Value) (v : V), x = .ref a ∧ y = .ref b ∧ H a = some (dtO a xs) ∧ KeysT H xs ∧ PlT H b (ks.map V.int) ∧ atKey xs ks = some p ∧ RelV v p.2 ∧ Q v H
theorem ix_dT (hu : X.A.units + 1 < cLine) : IxR X rIxDT := by
  intro value slice pins s σ H x y v u Q I rx ry ⟨a, b, ks, xs, p, z, ex, ey, ha, hk, hb, hp, rz, q⟩ hs
  subst ex ey
  obtain rfl : v = Value.ref a := rx
  obtain rfl : u = Value.ref b := ry
  obtain ⟨_, hd, dd⟩ := dT_of I.hok ha hk
  have hT : s.TypeIs (.ref a) "dict" := dd.typeIs
  unfold subscriptTail
  refine wpAny_bind ?_
  rw [getitemInPython_of_ne hT.not_modules]
  have fin : wpAny (model X.prog X.w) X.A (subscripted slice false (.ref a) (.ref b)) (fun r s₃ => wpAny (model X.prog X.w) X.A (letTemporaryGo value (.ref a) r >>= fun _ => pure r) (EP X pins σ Q) X.xe s₃) X.xe s := by
    rw [hs]
    exact wpAny_operating (wpAny_mono (wpAny_getItem_heap (Q := EP X pins σ Q) (E := X.xe) (tupleKind_room_in1 hu) (keyT_of I.hok hb) dd hp ⟨z, H, I.tok _, rz, q⟩) (fun r s₃ h₃ => wpAny_bind (wpAny_letTemporaryGo (wpAny_pure h₃))) fun _ _ x => x)
  exact wpAny_bind (wpAny_specialOf hT PySem.F.slot_dict_getitem.lookup (by first | exact wpAny_pure (wpAny_bind fin) | exact wpAny_bind (wpAny_pure (wpAny_bind fin)) | exact wpAny_bind fin))
theorem len_storedH (xs : List KEnt) (k : List Int) (a : Addr) (v : Value) : (storedH xs k a v).length ≤ xs.length + 1 := by
  unfold storedH
  split <;> simp
/-- d[k] = v -/
def rPutT : V → V → V → Hp → (Hp → Prop) → Prop := fun o i v H Q => ∃ (a b : Addr) (ks : List Int) (xs : List KEnt), o = .ref a ∧ i = .ref b ∧ PlT H b (ks.map V.int) ∧ xs.length < sizeLine ∧ ((H a = some (.dK []) ∧ xs = []) ∨ (H a = some (dtO a xs) ∧ KeysT H xs)) ∧
  ∀ u, RelV v u → Q (upd H a (dtO a (storedH xs ks b u)))
theorem put_T (hu : X.A.units + 1 < cLine) : PSet X rPutT := by
  intro pins s σ H o i v ov iv u Q I ro ri rv ⟨a, b, ks, xs, eo, ei, hb, hz, hd, q⟩
  subst eo ei
  obtain rfl : ov = Value.ref a := ro
  obtain rfl : iv = Value.ref b := ri
  have key : (a == sysModules) = false ∧ s.heap.DictOfH (tupleKind (PySem.intKind X.prog X.w)) a xs ∧ Mut (H a) := by
    rcases hd with ⟨e, rfl⟩ | ⟨e, k⟩
    · obtain ⟨_, hm, vs, rel, ⟨ob, es, ep, h1, h2, h3, _, h5, _⟩⟩ := dk_of I.hok e
      cases rel
      refine ⟨hm, ⟨ob, es, ep, h1, h2, h3, ?_, fun x m => (by cases m), List.nodup_nil⟩, by rw [e]; exact True.intro⟩
      cases he : es.toList with
      | nil => rfl
      | cons c r => rw [he] at h5; cases h5
    · obtain ⟨_, hm, dd⟩ := dT_of I.hok e k
      exact ⟨hm, dd, by rw [e]; exact True.intro⟩
  obtain ⟨hm, dd, mu⟩ := key
  have hl := len_storedH xs ks b u
  refine wpAny_setItem_heap (hsz := by omega) (tupleKind_room_in1 hu) (keyT_of I.hok hb) dd fun h' dd' hs => ?_
  have he : ∃ q, h'.get? a = some q := let ⟨q, _, _, hq, _⟩ := dd'; ⟨q, hq⟩
  exact ⟨_, d_write I mu hs he (dT_new (by omega) hm dd'), q u rv⟩
end
/-! ### list.count, flat items -/
section
variable {X : Cx}
theorem cnt_V {x : V} : ∀ {ys : List V} {us : List Value}, Vals ys us → ys.all flatV = true → us.countP (eqU x) = ys.countP fun z => eqV z x
  | _, _, .nil, _ => rfl
  | y :: ys, u :: us, .cons r t, f => by
    rw [List.all_cons, Bool.and_eq_true] at f
    rw [List.countP_cons, List.countP_cons, cnt_V t f.2, eqU_of r f.1]
def rCntF (K : PySem.W.Frag) : V → List V → Hp → VK → Prop := fun x xs H Q => ∃ (p : Addr) (ys : List V) (y : V), x = .ref p ∧ xs = [y] ∧ SqL K H p ys ∧ flatV y = true ∧ ys.all flatV = true ∧ Q (.int (ys.countP fun z => eqV z y : Nat)) H
theorem mt_cntF : MtR X "list.count" (rCntF X.K) := by
  intro pins s σ H x xs v us Q I rx rxs h
  obtain ⟨p, ys, y, rfl, rfl, hs, fy, fys, q⟩ := h
  cases rx
  obtain ⟨uy, rfl, ry⟩ := vals1 rxs
  obtain ⟨its, rv, ⟨⟨cls, dd, data, sl⟩, n, ho, hc, hdn, hd⟩, hlen⟩ := I.list hs
  simp only at hc hd
  subst hc hd
  refine call_meets PySem.F.slot_list_count ⟨_, ho, rfl⟩ PySem.F.entry_list_count (PySem.F.args_list_count_2 _ _)
    (SeqAt.list_countAt p its.toArray n dd sl uy (eqU y)) ⟨ho, fun u' hu' => mem_eqAt ry fy rv fys u' (by simpa using hu'), ?_⟩
  have ec : its.toArray.toList.countP (eqU y) = ys.countP fun z => eqV z y := cnt_V rv fys
  refine ⟨.int (ys.countP fun z => eqV z y : Nat), H, I.tok _, ⟨s.toks, ?_⟩, q⟩
  show Value.int ((its.toArray.toList.countP (eqU y) : Nat) : Int) s.toks = Value.int ((ys.countP fun z => eqV z y : Nat) : Int) s.toks
  rw [ec]
end
end PT
/-! ### enumerate(t), t a tuple -/
namespace PT
open PySem PySem.Spec PyProof.Rows L2
open Sem (wp)
open AutoSeq1 (wpAny_loadPart')
theorem meets_enumerate_newT {v : Value} {o : Obj} {H : Heap → Prop} (B : Begins v o H) :
    Meets (Builtin.«enumerate.__new__» ⟨[.type "enumerate", v], []⟩) (fun _ R s => H s.heap ∧
      R (.ok (.ret (.ref (s.heap.push o).objs.size))) { s with heap := (s.heap.push o).push { cls := .type "enumerate", data := .fields #[.none, .bool false, .ref s.heap.objs.size, rawInt 0, .none, .none] } }) :=
  .of_wp fun prog w A R s h => by
    obtain ⟨hp, g, d, tk, os⟩ := s; obtain ⟨h1, h⟩ := h
    have hsub := sub_enumerate
    have q1 : ∀ {A' : Around} {E : Value → Shared → Prop} {Q : Value → Shared → Prop}, Q (.ref hp.objs.size) ⟨hp.push o, g, d, tk, os⟩ → wpAny (model prog w) A' (pyIter v) Q E ⟨hp, g, d, tk, os⟩ :=
      fun q => B.iter prog w _ _ ⟨hp, g, d, tk, os⟩ _ h1 q
    wp_walk using q1
    refine wpAny_stack_any fun st => wpAny_pure ?_
    split
    · rename_i c _ _ _ _ _
      cases (c == Value.type "enumerate")
      · wp_walk using q1
        exact ⟨_, rfl, h⟩
      · wp_walk using q1
        exact ⟨_, rfl, h⟩
    · wp_walk using q1
      exact ⟨_, rfl, h⟩
theorem call_enumerate_tuple {prog : Program} {w : World} {A : Around} {E : Value → Shared → Prop} {s : Shared} {l : Addr} {items : Array Value} {Q : Value → Shared → Prop} (hL : s.heap.IsTuple l items)
    (h : ∀ h', IsEnum h' (s.heap.objs.size + 1) s.heap.objs.size 0 .none → h'.IsTupleIter s.heap.objs.size l 0 → h'.objs.size = s.heap.objs.size + 2 →
      (∀ b o, s.heap.get? b = some o → h'.get? b = some o) → Q (.ref (s.heap.objs.size + 1)) { s with heap := h' }) :
    wpAny (model prog w) A (call (.type "enumerate") [.ref l]) Q E s := by
  refine callType_new F.called_enumerate (by decide) (F.typeCall_enumerate_1 _) (F.newCall_enumerate_1 _) (fun obj => F.args_object_init_2 obj _) F.entry_enumerate_new
    (meets_enumerate_newT (begins_tuple l items)) ⟨hL, ?_⟩
  have hz : (s.heap.push { cls := .type "tuple_iterator", data := .fields #[.ref l, .int 0 0] }).objs.size = s.heap.objs.size + 1 := Heap.size_push ..
  show _ ∧ _
  rw [hz]
  have he : IsEnum ((s.heap.push { cls := .type "tuple_iterator", data := .fields #[.ref l, .int 0 0] }).push
      { cls := .type "enumerate", data := .fields #[.none, .bool false, .ref s.heap.objs.size, rawInt 0, .none, .none] }) (s.heap.objs.size + 1) s.heap.objs.size 0 .none := by
    have := Heap.get?_push_size (s.heap.push { cls := .type "tuple_iterator", data := .fields #[.ref l, .int 0 0] })
      (o := { cls := .type "enumerate", data := .fields #[.none, .bool false, .ref s.heap.objs.size, rawInt 0, .none, .none] }) rfl
    rw [hz] at this; exact this
  refine ⟨⟨_, he, rfl⟩, h _ he ⟨_, Heap.get?_push_of_some _ (Heap.get?_push_size _ rfl), rfl, rfl⟩ (by rw [Heap.size_push, hz]) fun b o x => Heap.get?_push_of_some _ (Heap.get?_push_of_some _ x)⟩
/-- the tuple at a as it stands at each turn, each item in a new pair -/
def IteT (K : PySem.W.Frag) (a : Addr) : L2.It :=
  ⟨fun i H => ∃ (xs : List V) (x : V), SqT K H a xs ∧ xs[i]? = some x, fun i H v H' => ∃ T x, v = .ref T ∧ H T = none ∧ H' = upd H T (.tup [.int (i : Nat), x]) ∧ ∀ xs, SqT K H a xs → xs[i]? = some x, fun i H => ∃ xs : List V, SqT K H a xs ∧ xs.length ≤ i⟩
theorem turn_enumT {P : Program} {w : World} {K : PySem.W.Frag} {elts : List Expr} {kk : Nat} {tpos : Pos} (a e it : Addr) (hai : a ≠ it) (hae : a ≠ e) :
    Turn P w K (.Tuple elts kk tpos) (IteT K a) [e, it] e (fun i h => (∃ old, IsEnum h e it ((i : Nat) : Int) old) ∧ h.IsTupleIter it a i ∧ e ≠ it) where
  mem := by simp
  obj := fun i h st b hb => by
    obtain ⟨⟨old, he⟩, ⟨o, ho, hc, hd⟩, _⟩ := st
    have e' : b = e ∨ b = it := by simpa using hb
    rcases e' with z | z
    · rw [z]; exact ⟨_, he, fun v q => nomatch q⟩
    · rw [z]; exact ⟨o, ho, fun v q => by rw [hd] at q; cases q⟩
  keep := fun i h h' st k => let ⟨⟨old, he⟩, hi, hne⟩ := st; ⟨⟨old, k e (by simp) _ he⟩, hi.at fun o q => k it (by simp) o q, hne⟩
  item := by
    intro X hP hw hK hc i pins s σ H E I hf st hg
    subst hP hw hK
    obtain ⟨⟨old, he⟩, hit, hne⟩ := st
    obtain ⟨xs, x, hq, hx⟩ := hg
    obtain ⟨its, rv, p, hz⟩ := I.tuple hq
    have p : s.heap.IsTuple a its.toArray := p
    obtain ⟨u, hu, ru⟩ := rv.get hx
    have hel : e < s.heap.objs.size := Heap.lt_size he
    have hil : it < s.heap.objs.size := by obtain ⟨_, q, _⟩ := hit; exact Heap.lt_size q
    have D := Draws.tuple (prog := X.prog) (w := X.w) (A := X.A.in1) (I.ok.hd hc) it a hai its.toArray
    have hlt : i < its.toArray.size := by
      have := (List.getElem?_eq_some_iff.mp hu).1
      simpa using this
    refine wpAny_pyNext_enum_itemD D he ⟨hit, p⟩ hlt hne (by simp only [List.mem_cons, List.not_mem_nil, or_false, not_or]; exact ⟨hne, Ne.symm hae⟩) fun x' h' tk hPx ho hit' hT hsz hk => ?_
    have ex : x' = u := by
      have q : its.toArray[i]? = some x' := hPx
      rw [List.getElem?_toArray, hu] at q
      exact (Option.some.inj q).symm
    subst ex
    refine ⟨_, rfl, wpAny_letOwnedTupleGo_enum (s := { s with heap := h', toks := tk + 1 }) ho fun h'' he' sb => ?_⟩
    have hT2 : h''.get? s.heap.objs.size = some { cls := .type "tuple", data := .seq #[.int i tk, x'] } := (sb.2 _ (Nat.ne_of_gt hel)).trans hT
    have new : ObjOk X.prog X.w (upd H s.heap.objs.size (.tup [.int (i : Nat), x])) h'' s.heap.objs.size (.tup [.int (i : Nat), x]) :=
      ⟨by show 2 ≤ sizeLine; decide, [.int i tk, x'], .cons ⟨_, rfl⟩ (.cons ru .nil), ⟨_, hT2, rfl, _, rfl⟩⟩
    have I1 : Inv X pins σ (upd H s.heap.objs.size (.tup [.int (i : Nat), x])) { s with heap := h'', toks := tk + 1 } :=
      I.turnedNew (ch := [e, it]) (fun b ob hb q => (sb.2 b (fun z => hb (by simp [z]))).trans (hk b ob (fun z => hb (by simp [z])) (fun z => hb (by simp [z])) q)) hf (Nat.le_refl _) new
    refine ⟨.ref s.heap.objs.size, _, I1, rfl, ⟨_, x, rfl, I.hok.fresh (Nat.le_refl _), rfl, fun ys hy => by rw [I.tuple_inj hy hq]; exact hx⟩, ⟨⟨x', ?_⟩, hit'.1.at fun o q => (sb.2 it (Ne.symm hne)).trans q, hne⟩, fun b hb => ?_⟩
    · have e1 : ((i + 1 : Nat) : Int) = (i : Int) + 1 := by omega
      rw [e1]; exact he'
    · have hb' : b < s.heap.objs.size := by
        have e' : b = e ∨ b = it := by simpa using hb
        rcases e' with z | z
        · rw [z]; exact hel
        · rw [z]; exact hil
      rw [upd_ne (Nat.ne_of_lt hb')]
      exact (hf b hb).1
  done := by
    intro X hP hw hK hc i pins s σ H E I hf st hg
    subst hP hw hK
    obtain ⟨⟨old, he⟩, hit, hne⟩ := st
    obtain ⟨xs, hq, hx⟩ := hg
    obtain ⟨its, rv, p, hz⟩ := I.tuple hq
    have p : s.heap.IsTuple a its.toArray := p
    obtain ⟨f0, f1, f2, f3, f4, f5⟩ := hf it (by simp)
    have hl := rv.length
    have hT : s.TypeIs (.ref e) "enumerate" := ⟨_, he, rfl⟩
    unfold pyNext
    refine wpAny_bind (wpAny_attempt (wpAny_callSpecial?_slot (name := Str.ofString "__next__") hT F.slot_enumerate_next
      (wpAny_call_entry F.slot_enumerate_next hT F.entry_enumerate_next ?_ (F.args_enumerate_next_1 _))))
    show wpAny _ _ (field (.ref e) 2 >>= _) _ _ _
    refine wpAny_bind (wpAny_field he rfl (x := .ref it) rfl ?_)
    refine wpAny_bind (wpAny_nextOf_tuple_end (I.ok.hd hc) hit p (by simp; omega) fun h' y he' hx' => ?_)
    obtain ⟨o, ho, hc⟩ := hx'
    refine wpAny_bind (wpAny_isInstance (T := "StopIteration") (b := true) ⟨o, ho, hc⟩ isSubtype_stop ?_)
    exact wpAny_pure ⟨rfl, I.turned (t' := s.toks) (fun b o hb q => he' b o hb q) f0 f1 f3 f4 f5⟩
  self := fun A i s Q E st h => let ⟨⟨_, he⟩, _⟩ := st; wpAny_pyIter_enum he h
def iEnumA (K : PySem.W.Frag) (ta : TA) : TI := fun σ H R => ta σ H fun vs H1 => ∃ a xs, vs = [.ref a] ∧ ((SqL K H1 a xs ∧ R (Ite K a) H1) ∨ (SqT K H1 a xs ∧ R (IteT K a) H1))
theorem pi_enumA {X : Cx} {e : Expr} {ta : TA} {p pos tpos : Pos} {elts : List Expr} {kk : Nat} (hg : Gl X "enumerate") (hm : X.mg "enumerate" = none) (ha : PA X [e] ta) (hs : starEach [e] X.env = [(false, eval e X.env)] := by rfl) :
    PI X (.Tuple elts kk tpos) (.Call (.Name "enumerate" p) [e] [] pos) (iEnumA X.K ta) := by
  refine ⟨fun pins s σ H R I h => ?_⟩
  refine Call_ (ld_blt I hg hm boot_enumerate (PyProof.Rows.callWith_type1 (thn (ha.run pos pins s σ H _ I h) fun us s1 ⟨vs, H1, I1, r1, q1⟩ => ?_) hs rfl))
  obtain ⟨a, xs, ex, q⟩ := q1
  subst ex
  cases r1 with
  | cons r rr =>
    cases rr
    cases r
    rcases q with ⟨hq, q⟩ | ⟨hq, q⟩
    · obtain ⟨its, rv, p', hz⟩ := I1.list hq
      refine call_enumerate_list p'.isList fun h' he hit hsz hk => wpAny_pyIter_enum he ?_
      have I2 : Inv X pins σ H1 { s1 with heap := h' } := I1.kept (t' := s1.toks) hk
      refine ⟨s1.heap.objs.size + 1, [s1.heap.objs.size + 1, s1.heap.objs.size], _, _, H1, rfl, I2, turn_enum a (s1.heap.objs.size + 1) s1.heap.objs.size, ⟨⟨.none, he⟩, hit, Nat.succ_ne_self _⟩, fun b hb => ?_, q⟩
      have e' : b = s1.heap.objs.size + 1 ∨ b = s1.heap.objs.size := by simpa using hb
      have hle : s1.heap.objs.size ≤ b := by
        rcases e' with z | z
        · rw [z]; exact Nat.le_add_right _ _
        · rw [z]; exact Nat.le_refl _
      exact I1.fpOk hle (I1.hok.fresh hle)
    · obtain ⟨its, rv, p', hz⟩ := I1.tuple hq
      have p' : s1.heap.IsTuple a its.toArray := p'
      have hal : a < s1.heap.objs.size := let ⟨_, e, _⟩ := p'; Heap.lt_size e
      refine call_enumerate_tuple p' fun h' he hit hsz hk => wpAny_pyIter_enum he ?_
      have I2 : Inv X pins σ H1 { s1 with heap := h' } := I1.kept (t' := s1.toks) hk
      refine ⟨s1.heap.objs.size + 1, [s1.heap.objs.size + 1, s1.heap.objs.size], _, _, H1, rfl, I2, turn_enumT a (s1.heap.objs.size + 1) s1.heap.objs.size (Nat.ne_of_lt hal) (Nat.ne_of_lt (Nat.lt_succ_of_lt hal)), ⟨⟨.none, he⟩, hit, Nat.succ_ne_self _⟩, fun b hb => ?_, q⟩
      have e' : b = s1.heap.objs.size + 1 ∨ b = s1.heap.objs.size := by simpa using hb
      have hle : s1.heap.objs.size ≤ b := by
        rcases e' with z | z
        · rw [z]; exact Nat.le_add_right _ _
        · rw [z]; exact Nat.le_refl _
      exact I1.fpOk hle (I1.hok.fresh hle)
/-! ### name = {k: v for ..} on one line -/
section
variable {X : Cx}
theorem ps_setDc {i : Nat} {y : Str} {py : Pos} {kx vx tg iter : Expr} {ifs : List Expr} {scope : Scope} {own : List (Str × Nat)} {pos spos : Pos} {wi : TI} {g : TG} {tt : TT} {tk tv : TE} (hc : X.calm = true) (hN : X.N.Nodup) (hy : X.N[i]? = some y) (hyl : X.env.scope.names.lookup y = some .local)
    (hsw : swapsWith (.DictComp kx vx [⟨tg, iter, ifs, 0⟩] scope pos) (some (.Name y py)) spos.line X.env = pure true) (hi : PI X tg iter wi) (ok : BlkOk X.N X.env.scope scope own)
    (hg : ∀ (s : Shared) (H : Hp) (C : Addr) (cl : List (Str × Addr)) (fp : List Addr), PG (X.blk s H scope (compEnvC scope cl C X.env) fp) tg g) (ht : ∀ (s : Shared) (H : Hp) (C : Addr) (cl : List (Str × Addr)) (fp : List Addr), PTs (X.blk s H scope (compEnvC scope cl C X.env) fp) ifs tt)
    (hk : ∀ (s : Shared) (H : Hp) (C : Addr) (cl : List (Str × Addr)) (fp : List Addr), PE (X.blk s H scope (compEnvC scope cl C X.env) fp) kx tk)
    (he : ∀ (s : Shared) (H : Hp) (C : Addr) (cl : List (Str × Addr)) (fp : List Addr), PE (X.blk s H scope (compEnvC scope cl C X.env) fp) vx tv) (hs : ∀ x, foldedSetIterable iter X.env x = pure x := by intro _; rfl) :
    PS X (.Assign [.Name y py] (.DictComp kx vx [⟨tg, iter, ifs, 0⟩] scope pos) spos) (tAsg (tDc wi g tt tk tv (own.map (·.2))) (gName i)) := by
  refine ⟨fun pins s σ H D I h => ?_⟩
  rw [exec_Assign_Name_used _ _ _ _ hsw]
  refine wpAny_bind (wpAny_standAt (wpAny_bind ?_))
  show wpAny _ X.A (do let _ ← comprehension (.DictComp kx vx [⟨tg, iter, ifs, 0⟩] scope pos) scope X.env (firstIterPos [⟨tg, iter, ifs, 0⟩] pos) newDict false (eval iter X.env) (some (assign (.Name y py) X.env))) _ _ s
  have h : tDc wi g tt tk tv (own.map (·.2)) σ H (fun x H1 => gName i x σ H1 D.nx) := h
  refine wpAny_bind (thn (dc_core (Qf := fun _ s' => SP X pins D .next s') hc hN I hi ok hg ht hk he hs h fun L C s' m H' I' q hn f => ?_) fun _ s' hq => wpAny_pure (wpAny_pure hq))
  show wpAny _ _ (assign (.Name y py) X.env (.ref L)) _ _ _
  refine wpAny_assign_Name (store_ok2 (v := V.ref L) I' hN hy (.inl hyl) rfl (fun s2 I2 ⟨a, sb, ha⟩ => ?_) (.inr hyl))
  obtain ⟨f0, f1, f2, f3, f4, f5⟩ := f
  have haC : C ≠ a := by
    rcases ha with z | z
    · rw [z]; exact f1
    · exact fun e => f4 y a z e.symm
  refine ⟨m, hn.sameBut sb haC, fun h3 sb3 => ?_⟩
  exact ⟨_, H', I2.turned (t' := s2.toks) (fun b o hb e => (sb3.2 b hb).trans e) f0 f1 f3 f4 f5, q⟩
theorem swd_true {kx vx : Expr} {gs : List Comprehension} {scope : Scope} {pos py : Pos} {y : Str} {l : Nat} {env : PySem.Env} (hk : env.scope.kind = .function) (hy : env.scope.names.lookup y = some .local) (hl : (py.line == pos.line) = true)
    (ha : (scope.names.any fun (n, k) => n == y && (k == .local || k == .cell)) = false) : swapsWith (.DictComp kx vx gs scope pos) (some (.Name y py)) l env = pure true := by
  have ky : env.kindOf y = some .local := hy
  have hb : env.blockKind = .function := by unfold Env.blockKind; rw [hk]; rfl
  unfold swapsWith
  simp only [hb, ky, ha, Expr.pos, hl]
  rfl
end
end PT
/-! ### math.factorial; sorted(list of tuples, key=f), f giving the first item -/
namespace PT
open PySem PySem.Spec PyProof.Rows L2
def factN (n : Nat) : Nat := Builtin.Math.factorialNat n
theorem factN_succ (n : Nat) : factN (n + 1) = factN n * (n + 1) := by
  unfold factN Builtin.Math.factorialNat
  rw [List.range_succ, List.foldl_append]
  rfl
theorem factN_zero : factN 0 = 1 := rfl
theorem factN_pos : ∀ n, 0 < factN n
  | 0 => Nat.one_pos
  | n + 1 => by
    rw [factN_succ]
    exact Nat.mul_pos (factN_pos n) (Nat.succ_pos n)
theorem factN_le {n m : Nat} (h : n ≤ m) : factN n ≤ factN m := by
  induction h with
  | refl => exact Nat.le_refl _
  | step _ ih =>
    rw [factN_succ]
    exact Nat.le_trans ih (Nat.le_mul_of_pos_right _ (Nat.succ_pos _))
def rFact : List V → Hp → VK → Prop := fun xs H Q => ∃ k : Int, xs = [.int k] ∧ 0 ≤ k ∧ k ≤ 100 ∧ Q (.int (factN k.toNat : Nat)) H
theorem fact_log {n : Nat} (h : n ≤ 100) : (((factN n : Nat) : Int)).natAbs.log2 < bitsLine := by
  have h1 : factN n ≤ factN 100 := factN_le h
  have h2 : factN 100 < 2 ^ (1023 + 1) := by decide +kernel
  have h3 : (factN n).log2 ≤ 1023 := PySem.W.mg_log (Nat.lt_of_le_of_lt h1 h2)
  rw [Int.natAbs_natCast]
  have : (1023 : Nat) < bitsLine := by unfold bitsLine; decide
  omega
section
variable {X : Cx}
theorem cr_fact : CallR X (.builtin "math.factorial") rFact := by
  intro pins s σ H xs us Q I r ⟨k, e, h0, h1, q⟩
  subst e
  obtain ⟨u, rfl, t, rfl⟩ := vals1 r
  have hm : (20000 : Int) = Builtin.Math.manyFactors := rfl
  have hx : (9223372036854775807 : Int) = Builtin.Math.maxSsize := rfl
  exact PySem.W.mg_factorial (by rw [← hx]; omega) (by omega) (by rw [← hm]; omega) (fact_log (by omega)) ⟨.int _, H, I.tok _, ⟨_, rfl⟩, q⟩
end
/-! #### sorted by a key -/
/-- the def at f gives its one parameter's first item -/
def FstD (K : PySem.W.Frag) (f : Addr) : Prop := ∃ (name qual x : Str) (params : Arguments) (scope : Scope) (p1 p2 p3 p4 : Pos) (kk : Nat) (dV kV doc pm : Value) (an : Option Addr) (cdv ct oc : Value) (od : Option Addr) (osl : Array (Option Value)),
  K.lookup f = some ⟨oc, od, .func (PySem.W.fnOf name qual params [.Return (some (.Subscript (.Name x p1) (.Constant (.int 0) kk p2) p3)) p4] scope dV kV doc pm an cdv ct), osl⟩ ∧ PySem.W.codeIn K cdv qual = true ∧
  FnScope [x] [x] scope ∧ scope.names.lookup x = some .local ∧ (x == ("__debug__" : Str)) = false ∧
  Binds K (PySem.W.fnOf name qual params [.Return (some (.Subscript (.Name x p1) (.Constant (.int 0) kk p2) p3)) p4] scope dV kV doc pm an cdv ct) [x] []
section
variable {prog : Program} {w : World} {A : Around} {s : Shared} {K : PySem.W.Frag} {f t : Addr} {items : Array Value} {k : Int} {tk : Tok}
theorem fst_call (D : FstD K f) (KX : K.In s.heap) (lim : s.heap.NoLimit) (room : A.depth < recursionLimit) (ht : IsTup s.heap t items) (h0 : items[0]? = some (.int k tk)) :
    wpAny (model prog w) A (call (.ref f) [.ref t]) (PySem.W.KeyPure (.int k) s) (fun _ _ => False) s := by
  obtain ⟨name, qual, x, params, scope, p1, p2, p3, p4, kk, dV, kV, doc, pm, an, cdv, ct, oc, od, osl, lk, hcd, S, hx, hdb, hb⟩ := D
  have bt := hb s [.ref t] KX rfl
  refine wpAny_call (codeAny_mono (Att.call_fn (R := fun r s' => match r with | .ok (.ret u) => PySem.W.KeyPure (.int k) s u s' | _ => False) KX lim lk hcd room bt ?_ (fun s1 x1 => ?_) S.co S.gen S.kind) fun r s' hq => ?_)
  · show (([x].zip ([Value.ref t] ++ [])).all fun y => scope.names.lookup y.1 == some .local || scope.names.lookup y.1 == some .cell) = true
    simp [hx]
  · obtain ⟨h1, tk1, rfl, hk⟩ := x1.done
    have hm : bindL (envOfC qual scope s.heap.objs.size f cdv).kindOf ([x].zip ([Value.ref t] ++ [])) (fun _ => none) x = some (.ref t) := bindL_get (i := 0) (List.pairwise_singleton _ _) rfl rfl hx
    have ht1 : IsTup h1 t items := by
      obtain ⟨o, ho, hc, n, hd⟩ := ht
      exact ⟨o, hk _ _ ho, hc, n, hd⟩
    have hsz : 0 < items.size := by
      rcases Nat.eq_zero_or_pos items.size with z | z
      · rw [Array.getElem?_eq_none (by omega)] at h0; cases h0
      · exact z
    refine wpAny_execs_cons (wpAny_Return_some (Subscript_ (wpAny_Name (wpAny_loadName_local S.kind hx x1.toInCall.ns hm ?_) hdb)))
    refine wpAny_Constant_int ?_
    refine tail_any (ops := [.ref t, .int 0 tk1]) ht1.typeIs PyProof.Rows.slot_tuple_getitem.lookup (getItem_tuple (j := 0) ht1 (by omega) (by omega) ?_ h0 ?_) (by with_unfolding_all rfl)
    · exact seqIndex_of (k := 0) (by omega) (by omega)
    · exact ⟨h1, tk1 + 1, rfl, hk, .int k tk⟩
  · cases r with
    | error e => exact False.elim hq
    | ok fl => cases fl <;> first | exact hq | exact False.elim hq
end
def leK {β : Type} (a b : Int × β) : Bool := decide (a.1 ≤ b.1)
def rSrk (K : PySem.W.Frag) (f : Addr) : List V → List V → Hp → VK → Prop := fun vs zs H Q => ∃ (a : Addr) (ts : List (Int × V)), vs = [V.ref a] ∧ zs = [V.ref f] ∧ SqL K H a (ts.map (·.2)) ∧ ts.length ≤ 1000 ∧ (∀ q ∈ ts, ∃ b ys, q.2 = .ref b ∧ SqT K H b (.int q.1 :: ys)) ∧
  ∀ p, H p = none → Q (.ref p) (upd H p (.lst ((ts.mergeSort leK).map (·.2))))
section
variable {X : Cx}
theorem cr_srk {f : Addr} (D : FstD X.K f) (room : X.A.depth < recursionLimit) (hu : X.A.units + 2 < cLine) : CallRK X (.builtin "sorted") [Str.ofString "key"] (rSrk X.K f) := by
  intro pins s σ H vs zs us ws Q I r rz ⟨a, ts, e1, e2, hs, hl, hq, q⟩
  subst e1 e2
  obtain rfl := Vals.ref1 r
  obtain rfl := Vals.ref1 rz
  obtain ⟨its, rv, pl, hz⟩ := I.list hs
  have each : ∀ (ts : List (Int × V)) (its : List Value), (∀ q ∈ ts, ∃ b ys, q.2 = .ref b ∧ SqT X.K H b (.int q.1 :: ys)) → Vals (ts.map (·.2)) its →
      PySem.W.EachIs (fun (u : Value) (b : Int × V) => RelV b.2 u ∧ ∃ (t : Addr) (items : Array Value) (tk : Tok), u = .ref t ∧ IsTup s.heap t items ∧ items[0]? = some (.int b.1 tk)) its ts := by
    intro ts
    induction ts with
    | nil =>
      intro its _ rv
      rw [List.map_nil] at rv
      cases rv
      exact .nil
    | cons c ts ih =>
      intro its hq rv
      rw [List.map_cons] at rv
      cases rv with
      | cons h t =>
        obtain ⟨b, ys, eb, hb⟩ := hq c List.mem_cons_self
        rw [eb] at h
        cases h
        obtain ⟨its2, r2, pt, _⟩ := I.tuple hb
        cases r2 with
        | cons h2 t2 =>
          obtain ⟨tk, rfl⟩ := h2
          exact .cons ⟨by rw [eb]; exact rfl, b, _, tk, rfl, pt, rfl⟩ (ih _ (fun q m => hq q (List.mem_cons_of_mem _ m)) t)
  have e := each ts its hq rv
  have hal : PySem.W.AllAlike (ts.map fun b : Int × V => PyData.int b.1) := PySem.W.AllAlike.of fun _ _ => by simp [PySem.W.alike]
  have hsk : PySem.W.Sortable (ts.map fun b : Int × V => PyData.int b.1) := PySem.W.Sortable.others (enc := fun b : Int × V => PyData.int b.1) (fun b => ⟨fun z => PyData.noConfusion z, fun xs z => PyData.noConfusion z⟩)
  refine PySem.W.sorted_key_data (b := false) (fun b : Int × V => PyData.int b.1) pl.isList e hal hsk (by rw [List.length_map] at hz; exact hz) (fun x _ => ?_) (PyProof.Rows.ksk_s1 _ _) (fun _ => PyProof.Rows.ksk_l1 _ _) (fun _ => PyProof.Rows.ksk_t1 _ _) (fun v x hR _ h tk kp => ?_) fun out c h' tk kp hN hD hlen eo => ?_
  · have hd : (PyData.int x.1).depth = 0 := by simp [PyData.depth]
    omega
  · obtain ⟨_, t, items, tk2, rfl, ht, h0⟩ := hR
    refine fst_call (s := { s with heap := h, toks := tk }) D (I.kIn.keeps kp) (I.nolimit.keeps kp) room ?_ h0
    obtain ⟨o, ho, hc, n, hd⟩ := ht
    exact ⟨o, kp _ _ ho, hc, n, hd⟩
  · rw [PySem.W.dataLe_int (β := Int × V) fun b => b.1] at eo
    have vals : ∀ (l : List (Int × V)) (o : List Value), PySem.W.EachIs (fun (u : Value) (b : Int × V) => RelV b.2 u ∧ ∃ (t : Addr) (items : Array Value) (tk : Tok), u = .ref t ∧ IsTup s.heap t items ∧ items[0]? = some (.int b.1 tk)) o l → Vals (l.map (·.2)) o := by
      intro l
      induction l with
      | nil =>
        intro o h
        cases h
        exact .nil
      | cons x l ih =>
        intro o h
        cases h with
        | cons h t => exact .cons h.1 (ih _ t)
    have rv2 := vals _ _ eo
    have hlen2 : ((ts.mergeSort (fun a b => decide (a.1 ≤ b.1))).map (·.2)).length ≤ sizeLine := by
      rw [List.length_map, List.length_mergeSort]
      rw [List.length_map] at hz
      exact hz
    exact ⟨.ref _, upd H (s.heap.objs.size + 1) (.lst ((ts.mergeSort leK).map (·.2))), I.laid (t' := tk) kp (Nat.le_succ _) ⟨hlen2, out, c, rv2, hD⟩, rfl, q _ (I.hok.fresh (Nat.le_succ _))⟩
end
/-! #### t.index(k) -/
def rIdxT (K : PySem.W.Frag) : V → List V → Hp → VK → Prop := fun x xs H Q => ∃ (p : Addr) (ns : List Int) (k : Int), x = .ref p ∧ xs = [.int k] ∧ SqT K H p (ns.map V.int) ∧ k ∈ ns ∧ Q (.int (ns.idxOf k : Nat)) H
theorem mt_idxT {X : Cx} : MtR X "tuple.index" (rIdxT X.K) := by
  intro pins s σ H x xs v us Q I rx rs ⟨p, ns, k, e1, e2, hq, hk, q⟩
  subst e1 e2
  cases rx
  obtain ⟨u, rfl, t, rfl⟩ := vals1 rs
  obtain ⟨its, r, pl, hz⟩ := I.tuple hq
  exact PySem.SeqAt.tuple_index_ints pl (by simpa using RZ.intsAre_vals r) hk ⟨.int _, H, I.tok _, ⟨_, rfl⟩, q⟩
section
variable {X : Cx} {pl : Sem Bool} {name : Str} {id : String} {r : V → List V → Hp → VK → Prop} {o e : Expr} {es : List Expr} {to : TE} {t : TA} {apos cpos : Pos}
/-- a method of a tuple that is known to be bare -/
def tBMT (r : V → List V → Hp → VK → Prop) (to : TE) (t : TA) : TE := fun σ H Q => to σ H fun x H1 => (∃ p xs, x = .ref p ∧ PlT H1 p xs) ∧ t σ H1 fun ys H2 => r x ys H2 Q
theorem pe_bmT (slot : Slot "tuple" name id) (hty : typeOf (.builtin id) = pure (.type "method_descriptor")) (hm : MtR X id r) (ho : PE X o to) (ha : PA X (e :: es) t)
    (hbase : attributeBase o name X.env (eval o X.env) = eval o X.env := by rfl)
    (hfew : ((backTo cpos (starEach (e :: es) X.env)).all (fun x => !x.1) && (backToKw cpos (keywordEach [] X.env)).all (fun x => x.1.isSome)
      && decide ((e :: es).length + ([] : List Keyword).length + (if ([] : List Keyword).isEmpty then 0 else 1) < 30)) = true := by rfl)
    (hline : (apos.endLine == cpos.line) = true := by rfl) (hs : starEach (e :: es) X.env = (false, eval e X.env) :: starEach es X.env := by rfl) (hplain : (backTo cpos (starEach es X.env)).any (·.1) = false := by rfl) :
    PE X (.Call (.Attribute o name apos) (e :: es) [] cpos) (tBMT r to t) := by
  refine ⟨fun pins s σ H Q I h => ?_⟩
  refine wpAny_Call_method_late hbase hfew hline rfl (thn (ho.run pins s σ H _ I h) fun v s1 ⟨x, H1, I1, r1, ⟨p, xs, ex, hp⟩, q1⟩ => ?_)
  subst ex
  obtain rfl : v = Value.ref p := r1
  have hT : s1.TypeIs (.ref p) "tuple" := by
    obtain ⟨its, rv, ht, _⟩ := I1.tuple (hp.sq (K := X.K))
    exact ht.typeIs
  have hD : ∀ a, Value.ref p = .ref a → ∃ ob, s1.heap.get? a = some ob ∧ ob.dict = none := fun a e => by
    cases e
    obtain ⟨ob, hd, ho⟩ := hp
    obtain ⟨h1, _⟩ := (show ObjOk X.prog X.w H1 s1.heap p (.frz ob (.tup xs)) from I1.hok p _ ho)
    exact ⟨ob, h1, hd⟩
  refine ⟨"tuple", id, F.plainAttrs_tuple, slot, hty, hT, hD, ?_⟩
  have hA := ha.run cpos pins s1 σ H1 _ I1 q1
  rw [hs] at hA ⊢
  refine Calls.callWith_builtin (by show (false || (backTo cpos (starEach es X.env)).any (·.1)) = false; rw [hplain] <;> rfl) (Calls.evalArgs_plain ?_)
  exact thn hA fun us s2 ⟨vs, H2, I2, r2, q2⟩ => hm pins s2 σ H2 (.ref p) vs (.ref p) us Q I2 rfl r2 q2
end
end PT
/-! ### sets of ints: == and != -/
namespace PT
open PySem PySem.Spec PyProof.Rows L2
section
variable {P : Program} {w : World} {A : Around} {E : Value → Shared → Prop} {s : Shared} {a b : Addr} {S T : Int → Bool} {n m : Nat}
theorem entry_s_eq : entryFor table "set.__eq__" = some Builtin.«frozenset.__eq__» := entryFor_alias (id' := "frozenset.__eq__") (by kernel_rfl) rfl (by decide +kernel) (by kernel_rfl)
theorem entry_s_ne : entryFor table "set.__ne__" = some Builtin.«frozenset.__ne__» := entryFor_alias (id' := "frozenset.__ne__") (by kernel_rfl) rfl (by decide +kernel) (by kernel_rfl)
theorem sizeOf_at (R : SetR w s.heap a S n) {Q : Nat → Shared → Prop} (h : Q n s) : wpAny (model P w) A (Builtin.Frozenset.sizeOf a) Q E s := by
  obtain ⟨o, es, ep, t, ho, _, hd, _, _, _, _, hf, hn, _⟩ := R
  unfold Builtin.Frozenset.sizeOf
  refine wpAny_bind (wpAny_setEntries_of ho hd hf (wpAny_pure ?_))
  rw [hn]
  exact h
theorem walkUnseen_at (R : SetR w s.heap a S n) (R' : SetR w s.heap b T m) {Q : List (Int × Value) → Shared → Prop}
    (h : ∀ es : List (Int × Value), (∀ e ∈ es, GoodE e) → (es.map keyOf).Nodup → (∀ k, S k = true ↔ k ∈ es.map keyOf) → es.length = n → Q es s) : wpAny (model P w) A (Builtin.Frozenset.walkUnseen a b) Q E s := by
  obtain ⟨o, es, ep, t, ho, _, hd, g, nd, hm, _, hf, hn, _⟩ := R
  obtain ⟨o', es', ep', t', ho', _, hd', g', _, _, _, hf', _, _⟩ := R'
  unfold Builtin.Frozenset.walkUnseen
  refine wpAny_bind (wpAny_setEntries_of ho hd hf ?_)
  refine wpAny_bind (wpAny_setEntries_of ho' hd' hf' ?_)
  have gg : ∀ e ∈ es.toList ++ es'.toList, GoodE e := fun e he => by
    rcases List.mem_append.mp he with z | z
    · exact g e z
    · exact g' e z
  refine wpAny_bind (wpAny_forIn_list _ (fun rest bb s' => (∀ e ∈ rest, GoodE e) ∧ bb = (none, ()) ∧ s' = s) _ ?_ ?_ _ _ ⟨gg, rfl, rfl⟩)
  · rintro ⟨h1, x⟩ rest bb s' ⟨hg, rfl, rfl⟩
    obtain ⟨k, tk, e1, _⟩ := hg (h1, x) List.mem_cons_self
    have e1 : x = .int k tk := e1
    subst e1
    unfold Builtin.Frozenset.quietEq
    refine wpAny_bind (wpAny_pure ?_)
    simp only [Bool.not_true, Bool.false_eq_true, if_false]
    exact wpAny_pure ⟨fun e he => hg e (List.mem_cons_of_mem _ he), rfl, rfl⟩
  · rintro bb s' ⟨_, rfl, rfl⟩
    exact wpAny_pure (h es.toList g nd hm (by rw [Array.length_toList]; exact hn))
theorem unchanged_at {id : String} (R : SetR w s.heap a S n) {ep0 : Nat} (he : ∃ o es t, s.heap.get? a = some o ∧ o.data = .set es ep0 t) {Q : Unit → Shared → Prop} (h : Q () s) : wpAny (model P w) A (Builtin.Frozenset.unchanged id a ep0) Q E s := by
  obtain ⟨o, es, ep, t, ho, _, hd, _, _, _, _, hf, _, _⟩ := R
  obtain ⟨o', es', t', ho', hd'⟩ := he
  rw [ho] at ho'
  cases ho'
  rw [hd] at hd'
  cases hd'
  unfold Builtin.Frozenset.unchanged
  refine wpAny_bind (wpAny_setEpoch_of ho hd hf ?_)
  simp only [bne_self_eq_false, Bool.false_eq_true, if_false]
  exact wpAny_pure h
theorem subset_at {id : String} (R : SetR w s.heap a S n) (R' : SetR w s.heap b T m) {Q : Bool → Shared → Prop} (h : ∀ r : Bool, (r = true ↔ n ≤ m ∧ ∀ k, S k = true → T k = true) → Q r s) : wpAny (model P w) A (Builtin.Frozenset.subsetOf id a b) Q E s := by
  have R0 := R
  obtain ⟨o, es, ep, t, ho, _, hd, _, _, _, _, hf, _, _⟩ := R0
  unfold Builtin.Frozenset.subsetOf
  refine wpAny_bind (sizeOf_at R (wpAny_bind (sizeOf_at R' ?_)))
  by_cases c : n > m
  · rw [if_pos c]
    exact wpAny_pure (h false (iff_of_false Bool.false_ne_true fun z => absurd z.1 (by omega)))
  · rw [if_neg c]
    refine wpAny_bind (wpAny_setEpoch_of ho hd hf ?_)
    refine wpAny_bind (walkUnseen_at R R' fun l g nd hm hl => ?_)
    refine wpAny_bind (wpAny_forIn_list _ (fun rest bb s' => (∀ e ∈ rest, GoodE e) ∧ (∀ k, S k = true → T k = true ∨ k ∈ rest.map keyOf) ∧ (∀ e ∈ rest, S (keyOf e) = true) ∧ bb = (none, ()) ∧ s' = s) _ ?_ ?_ _ _ ⟨g, fun k hk => .inr ((hm k).mp hk), fun e he => (hm _).mpr (List.mem_map.mpr ⟨e, he, rfl⟩), rfl, rfl⟩)
    · rintro ⟨h1, x⟩ rest bb s' ⟨hg, hs, hS, rfl, rfl⟩
      obtain ⟨k, tk, e1, e2⟩ := hg (h1, x) List.mem_cons_self
      have e1 : x = .int k tk := e1
      have e2 : h1 = hashInt k := e2
      subst e1 e2
      refine wpAny_bind (wpAny_holding (wpAny_setFind_of (knd := intKind P w) (k := k) (intKind_is P w k tk) rfl R'.setOf fun r hr => ?_))
      have hSk : S k = true := hS (hashInt k, .int k tk) List.mem_cons_self
      cases hT : T k with
      | false =>
        rw [hT] at hr
        cases r with
        | some _ => cases hr
        | none =>
          refine wpAny_pure ?_
          exact wpAny_pure (h false (iff_of_false Bool.false_ne_true fun z => absurd (z.2 k hSk) (by rw [hT]; exact Bool.false_ne_true)))
      | true =>
        rw [hT] at hr
        cases r with
        | none => cases hr
        | some i =>
          simp only [Option.isNone_some, Bool.false_eq_true, if_false]
          refine wpAny_bind (unchanged_at R ⟨o, es, t, ho, hd⟩ ?_)
          refine wpAny_pure ⟨fun e he => hg e (List.mem_cons_of_mem _ he), fun j hj => ?_, fun e he => hS e (List.mem_cons_of_mem _ he), rfl, rfl⟩
          rcases hs j hj with z | z
          · exact .inl z
          · rw [List.map_cons] at z
            rcases List.mem_cons.mp z with z | z
            · have : j = k := z
              rw [this]
              exact .inl hT
            · exact .inr z
    · rintro bb s' ⟨_, hs, _, rfl, rfl⟩
      refine wpAny_pure (h true ⟨fun _ => ⟨by omega, fun k hk => ?_⟩, fun _ => rfl⟩)
      rcases hs k hk with z | z
      · exact z
      · cases z
theorem sub_fz : isSubtype (.type "set") (.type "frozenset") = pure false := by rw [isSubtype_type]; kernel_rfl
theorem sub_ss : isSubtype (.type "set") (.type "set") = pure true := by rw [isSubtype_type]; kernel_rfl
theorem anySet_at (R : SetR w s.heap a S n) {Q : Bool → Shared → Prop} (h : Q true s) : wpAny (model P w) A (Builtin.Frozenset.isAnySet (.ref a)) Q E s := by
  have hT : s.TypeIs (.ref a) "set" := (R.setOf (P := P)).typeIs
  unfold Builtin.Frozenset.isAnySet orM
  refine wpAny_bind (wpAny_isInstance hT sub_ss ?_)
  first | exact wpAny_pure h | (simp only [if_true]; exact wpAny_pure h)
theorem nd_le : ∀ (l m : List Int), l.Nodup → (∀ x ∈ l, x ∈ m) → l.length ≤ m.length
  | [], m, _, _ => Nat.zero_le _
  | c :: l, m, hn, h => by
    obtain ⟨h1, h2⟩ := List.nodup_cons.mp hn
    obtain ⟨m1, m2, rfl⟩ := List.append_of_mem (h c List.mem_cons_self)
    have q := nd_le l (m1 ++ m2) h2 fun x hx => by
      have := h x (List.mem_cons_of_mem _ hx)
      rcases List.mem_append.mp this with z | z
      · exact List.mem_append_left _ z
      · rcases List.mem_cons.mp z with z | z
        · rw [z] at hx
          exact absurd hx h1
        · exact List.mem_append_right _ z
    rw [List.length_append] at q
    rw [List.length_append, List.length_cons, List.length_cons]
    omega
theorem same_of (R : SetR w s.heap a S n) (R' : SetR w s.heap b T m) (e : n = m) (h : ∀ k, S k = true → T k = true) : ∀ k, S k = T k := by
  obtain ⟨o, es, ep, t, ho, _, hd, g, nd, hm, _, hf, hn, _⟩ := R
  obtain ⟨o', es', ep', t', ho', _, hd', g', nd', hm', _, hf', hn', _⟩ := R'
  have sub : ∀ k ∈ es.toList.map keyOf, k ∈ es'.toList.map keyOf := fun k hk => (hm' k).mp (h k ((hm k).mpr hk))
  have hl : (es'.toList.map keyOf).length ≤ (es.toList.map keyOf).length := by
    rw [List.length_map, List.length_map, Array.length_toList, Array.length_toList]
    omega
  intro k
  rw [Bool.eq_iff_iff, hm k, hm' k]
  refine ⟨sub k, fun hk => Classical.byContradiction fun hc => ?_⟩
  have q := nd_le (k :: es.toList.map keyOf) (es'.toList.map keyOf) (List.nodup_cons.mpr ⟨hc, nd⟩) fun x hx => by
    rcases List.mem_cons.mp hx with rfl | hx
    · exact hk
    · exact sub x hx
  rw [List.length_cons] at q
  omega
theorem len_of (R : SetR w s.heap a S n) (R' : SetR w s.heap b T m) (h : ∀ k, S k = T k) : n = m := by
  obtain ⟨o, es, ep, t, ho, _, hd, g, nd, hm, _, hf, hn, _⟩ := R
  obtain ⟨o', es', ep', t', ho', _, hd', g', nd', hm', _, hf', hn', _⟩ := R'
  have p : (es.toList.map keyOf).Perm (es'.toList.map keyOf) := (List.perm_ext_iff_of_nodup nd nd').mpr fun k => by rw [← hm k, ← hm' k, h k]
  have := p.length_eq
  rw [List.length_map, List.length_map, Array.length_toList, Array.length_toList] at this
  omega
/-- a == b -/
theorem set_eq_at (R : SetR w s.heap a S n) (R' : SetR w s.heap b T m) (hu : A.units < cLine) {Q : Value → Shared → Prop} (h : ∀ r : Bool, (r = true ↔ ∀ k, S k = T k) → Q (.bool r) s) : wpAny (model P w) A (richCompare .Eq (.ref a) (.ref b)) Q E s := by
  have hT : s.TypeIs (.ref a) "set" := (R.setOf (P := P)).typeIs
  have hT' : s.TypeIs (.ref b) "set" := (R'.setOf (P := P)).typeIs
  refine wpAny_richCompare_same_room hT hT' F.slot_set_eq (wpAny_call_entry F.slot_set_eq hT entry_s_eq ?_ (F.args_set_eq_2 _ _)) hu
  have fin : ∀ r : Bool, (r = true ↔ ∀ k, S k = T k) → ∃ v, (PySem.Fin.done (.ret (.bool r)) : PySem.Fin) = .done (.ret v) ∧ v ≠ .notImplemented ∧ Q v s := fun r hr => ⟨_, rfl, by simp, h r hr⟩
  refine wpAny_bind (m := Builtin.Frozenset.slot1 "__eq__" _) (wpAny_of_eq (a := (.ref a, .ref b)) (by rfl) ?_)
  refine wpAny_bind (anySet_at R' ?_)
  simp only [Bool.not_true, Bool.false_eq_true, if_false]
  refine wpAny_bind (wpAny_pure ?_)
  refine wpAny_bind (wpAny_pure ?_)
  refine wpAny_bind (sizeOf_at R (wpAny_bind (sizeOf_at R' ?_)))
  refine wpAny_bind ?_
  by_cases c : n = m
  · have c' : ¬ (n != m) = true := by simp [c]
    rw [if_neg c']
    refine wpAny_bind ?_
    unfold andM
    refine wpAny_bind (wpAny_isInstance hT sub_fz ?_)
    refine wpAny_pure ?_
    simp only [Bool.false_eq_true, if_false]
    refine subset_at R R' fun r hr => wpAny_pure (fin r (hr.trans ⟨fun z => same_of R R' c z.2, fun z => ⟨by omega, fun k hk => by rw [← z k]; exact hk⟩⟩))
  · have c' : (n != m) = true := by simp [c]
    rw [if_pos c']
    exact wpAny_pure (wpAny_pure (fin false (iff_of_false Bool.false_ne_true fun z => c (len_of R R' z))))
/-- a != b -/
theorem set_ne_at (R : SetR w s.heap a S n) (R' : SetR w s.heap b T m) (hu : A.units < cLine) {Q : Value → Shared → Prop} (h : ∀ r : Bool, (r = true ↔ ∀ k, S k = T k) → Q (.bool !r) s) : wpAny (model P w) A (richCompare .NotEq (.ref a) (.ref b)) Q E s := by
  have hT : s.TypeIs (.ref a) "set" := (R.setOf (P := P)).typeIs
  have hT' : s.TypeIs (.ref b) "set" := (R'.setOf (P := P)).typeIs
  refine wpAny_richCompare_same_room hT hT' F.slot_set_ne (wpAny_call_entry F.slot_set_ne hT entry_s_ne ?_ (F.args_set_ne_2 _ _)) hu
  have fin : ∀ r : Bool, (r = true ↔ ∀ k, S k = T k) → ∃ v, (PySem.Fin.done (.ret (.bool !r)) : PySem.Fin) = .done (.ret v) ∧ v ≠ .notImplemented ∧ Q v s := fun r hr => ⟨_, rfl, by simp, h r hr⟩
  refine wpAny_bind (m := Builtin.Frozenset.slot1 "__ne__" _) (wpAny_of_eq (a := (.ref a, .ref b)) (by rfl) ?_)
  refine wpAny_bind (anySet_at R' ?_)
  simp only [Bool.not_true, Bool.false_eq_true, if_false]
  refine wpAny_bind (wpAny_pure ?_)
  refine wpAny_bind (wpAny_pure ?_)
  refine wpAny_bind (sizeOf_at R (wpAny_bind (sizeOf_at R' ?_)))
  refine wpAny_bind ?_
  by_cases c : n = m
  · have c' : ¬ (n != m) = true := by simp [c]
    rw [if_neg c']
    refine wpAny_bind ?_
    unfold andM
    refine wpAny_bind (wpAny_isInstance hT sub_fz ?_)
    refine wpAny_pure ?_
    simp only [Bool.false_eq_true, if_false]
    refine subset_at R R' fun r hr => wpAny_pure (fin r (hr.trans ⟨fun z => same_of R R' c z.2, fun z => ⟨by omega, fun k hk => by rw [← z k]; exact hk⟩⟩))
  · have c' : (n != m) = true := by simp [c]
    rw [if_pos c']
    exact wpAny_pure (wpAny_pure (fin false (iff_of_false Bool.false_ne_true fun z => c (len_of R R' z))))
end
section
variable {X : Cx}
def rSEq (w : World) (neg : Bool) : R2 := fun x y H Q => ∃ (a b : Addr) (S T : Int → Bool) (n m : Nat), x = .ref a ∧ y = .ref b ∧ H a = some (SetO w a S n) ∧ H b = some (SetO w b T m) ∧ ∀ r : Bool, (r = true ↔ ∀ k, S k = T k) → Q (.bl (if neg = true then !r else r)) H
theorem op_seq (hu : X.A.units < cLine) : OpR X (compareOp .Eq) (rSEq X.w false) := by
  intro pins s σ H x y v u Q I rx ry ⟨a, b, S, T, n, m, ex, ey, ha, hb, q⟩
  subst ex ey
  cases rx; cases ry
  exact set_eq_at (setO_get I ha) (setO_get I hb) hu fun r hr => ⟨.bl r, H, I, rfl, q r hr⟩
theorem op_sne (hu : X.A.units < cLine) : OpR X (compareOp .NotEq) (rSEq X.w true) := by
  intro pins s σ H x y v u Q I rx ry ⟨a, b, S, T, n, m, ex, ey, ha, hb, q⟩
  subst ex ey
  cases rx; cases ry
  exact set_ne_at (setO_get I ha) (setO_get I hb) hu fun r hr => ⟨.bl !r, H, I, rfl, q r hr⟩
/-- set(a) == set(b), set(a) != set(b), tuples of ints -/
def coN (neg : Bool) : CmpOp := if neg = true then .NotEq else .Eq
theorem pe_seq {neg : Bool} {a b : Expr} {ta tb : TA} {pp pq p1 p2 pos : Pos} (hc : X.calm = true) (hg : Gl X "set") (hm : X.mg "set" = none) (hu : X.A.units < cLine) (ha : PA X [a] ta) (hb : PA X [b] tb)
    (hs : starEach [a] X.env = (false, eval a X.env) :: starEach [] X.env) (hs2 : starEach [b] X.env = (false, eval b X.env) :: starEach [] X.env) :
    PE X (.Compare (.Call (.Name "set" pp) [a] [] p1) [coN neg] [.Call (.Name "set" pq) [b] [] p2] pos) (tOp (rSEq X.w neg) (tCB (rSetT X.K X.w) ta) (tCB (rSetT X.K X.w) tb)) := by
  have e1 := pe_callTy (X := X) (p := pp) (pos := p1) (cr_setT hc) hg hm (by decide +kernel) ha (by decide) (by decide) hs rfl
  have e2 := pe_callTy (X := X) (p := pq) (pos := p2) (cr_setT hc) hg hm (by decide +kernel) hb (by decide) (by decide) hs2 rfl
  cases neg with
  | false => exact pe_cmpR (op_seq hu) e1 e2 (nomark _)
  | true => exact pe_cmpR (op_sne hu) e1 e2 (nomark _)
end
end PT
/-! ### exceptions: isinstance of one with a dict; made without arguments; made by an __init__ that stores its argument -/
namespace PT
open PySem PySem.Spec PyProof.Rows L2
open PySem.W in
theorem kin_classD {prog : Program} {w : World} {A : Around} {E : Value → Shared → Prop} {s : Shared} {K : PySem.W.Frag} {D x : Addr} {ox : Obj} {od : Option Obj} {Q : Option Value → Shared → Prop} (hga : findIn K (.ref D) "__getattribute__" = some (some (.builtin "BaseException.__getattribute__"))) (hgt : findIn K (.ref D) "__getattr__" = some none) (hsub : subIn K (.ref D) (.type "BaseException") = some true)
    (ha : findIn K (.ref D) "__class__" = some (some (.builtin "object.__class__")))
    (hm : mroIn K D (.type "object") = some true) (hf : findObj K D od "__class__" = some (.bind (.builtin "getset_descriptor.__get__") (.builtin "object.__class__")))
    (X : K.In s.heap) (I : InstAt s.heap x ox D od) (h : Q (some (.ref D)) { s with toks := s.toks + 1 }) : wpAny (model prog w) A (getAttr? (.ref x) "__class__") Q E s := by
  obtain ⟨hp, g, d, t, os⟩ := s
  have L0 := I.type (M := model prog w)
  have L1 := looks_findIn (M := model prog w) X hga
  have L2 := looks_findIn (M := model prog w) X hgt
  have L3 := looks_find (M := model prog w) X I hf
  have sub : Looks (model prog w) hp (isInstance (.ref x) (.type "BaseException")) true := L0.andThen (looks_subIn X hsub)
  have hx0 : (false && onTheHeap (Value.builtin "BaseException.__getattribute__")) = false := rfl
  have hx2 : (Value.builtin "BaseException.__getattribute__" == Value.builtin "object.__getattribute__") = false := by decide +kernel
  have hx1 : (onTheHeap (Value.ref D) && Value.builtin "BaseException.__getattribute__" == Value.builtin "object.__getattribute__") = false := by rw [hx2]; rfl
  unfold getAttr? getAttrBy? getAttrBy
  refine wpAny_bind (wpAny_mkText (wpAny_bind (wpAny_attempt (wpAny_holding (wpAny_bind (L0.at (wpAny_bind (L1.at ?_))))))))
  show wpAny _ _ (if (onTheHeap (Value.ref D) && Value.builtin "BaseException.__getattribute__" == Value.builtin "object.__getattribute__") = true then _ else _) _ _ _
  rw [hx1, if_neg Bool.false_ne_true]
  unfold getAttrByItsOwn hookBefore
  refine wpAny_bind ?_
  rw [if_pos (show onTheHeap (Value.ref D) = true from rfl)]
  refine L2.at ?_
  refine wpAny_bind (wpAny_attempt (wpAny_holding ?_))
  unfold callGetattribute
  rw [hx0, if_neg Bool.false_ne_true]
  unfold boundAndCalled
  rw [PySem.F.excAttr_ValueError.ga.bind (.ref x)]
  refine wpAny_bind (wpAny_pure ?_)
  show wpAny _ _ (call (.builtin "BaseException.__getattribute__") [.ref x, .str "__class__" t]) _ _ _
  refine wpAny_call (codeAny_call_builtin PySem.F.excAttr_ValueError.ga.plain PySem.F.entry_bexc_ga ?_)
  refine @check_slot (model prog w) _ _ ⟨hp, g, d, t + 1, os⟩ "BaseException.__getattribute__" "BaseException" "__getattribute__" (.ref x) [.str "__class__" t] [] _ (by decide +kernel) (by decide +kernel) sub (PySem.F.args_bexc_ga (.ref x) (.str "__class__" t)) ?_
  unfold Builtin.«object.__getattribute__»
  refine wpAny_bind (wpAny_of_eq (a := ((Value.ref x : Value), [Value.str "__class__" t])) (by first | rfl | (simp only [slotArgs]; rfl)) ?_)
  refine wpAny_bind (wpAny_pure (wpAny_bind (L0.at (wpAny_bind (L3.at ?_)))))
  show wpAny _ _ (holding [Value.builtin "object.__class__"] (call (.builtin "getset_descriptor.__get__") [.builtin "object.__class__", .ref x, .ref D]) >>= ret) _ _ _
  refine wpAny_bind (wpAny_holding (wpAny_call (class_get (s := ⟨hp, g, d, t + 1, os⟩) (ox := ox) (od := od) X I hm ?_)))
  refine wpAny_pure ?_
  show wpAny _ _ (handedOut (.ref D)) _ _ _
  rw [handedOut_of (v := .ref D) rfl]
  first
    | exact wpAny_pure (wpAny_pure h)
    | exact wpAny_pure h
    | exact wpAny_pure (wpAny_bind (wpAny_pure (wpAny_pure h)))
open PySem.W in
theorem kitx_excD {K : PySem.W.Frag} {D x : Addr} {ox : Obj} {od : Option Obj} (hga : findIn K (.ref D) "__getattribute__" = some (some (.builtin "BaseException.__getattribute__"))) (hgt : findIn K (.ref D) "__getattr__" = some none) (hsub : subIn K (.ref D) (.type "BaseException") = some true) (hdct : hasDictIn K D = true) (ha : findIn K (.ref D) "__class__" = some (some (.builtin "object.__class__")))
    (hn : specialIn K (.builtin "object.__class__") "__get__" = some (some (.builtin "getset_descriptor.__get__"))) (htk : takesIn K (.builtin "object.__class__") = some true) (hm : mroIn K D (.type "object") = some true) :
    KitX K (.ref x) (.ref D) (fun h => InstAt h x ox D od) where
  ty := fun _ _ _ I => I.type
  it := fun _ _ X _ => by
    obtain ⟨cdD, hcD, _⟩ := any_some hdct
    unfold clsIn at hcD
    split at hcD
    · rename_i c' d' cd' sl' ho
      intro A' Q' E' s' k q
      unfold isType loadHead
      exact wpAny_bind (wpAny_loadPart (k _ _ (X _ _ ho)) (wpAny_pure q))
    · cases hcD
  ne := fun h tp dd its n sl X htp => by
    obtain ⟨cdD, hcD, _⟩ := any_some hdct
    refine Bool.eq_false_iff.mpr fun q => ?_
    have e : D = tp := Value.ref.inj (beq_iff_eq.mp q)
    subst e
    unfold clsIn at hcD
    split at hcD
    · rename_i c' d' cd' sl' ho
      have z := (X _ _ ho).symm.trans htp
      cases z
    · cases hcD
  ca := fun X I k => kin_classD hga hgt hsub ha hm (by
    obtain ⟨cd, hc, _⟩ := any_some hdct
    unfold findObj
    rw [hc, Option.bind_some, ha, Option.bind_some]
    simp [hn, htk]) X I k
/-- isinstance(e, c), e the exception that the suite holds, of any dict -/
def rIsD (K : PySem.W.Frag) (D a : Addr) (d : Option Addr) : List V → Hp → VK → Prop := fun xs H Q => ∃ (c : V) (cv : Value) (b : Bool), xs = [.ref a, c] ∧ (∀ u, RelV c u → u = cv) ∧ PySem.W.kitOne K (.ref D) cv = some b ∧ (∀ dd, d = some dd → ∃ fs, H dd = some (.xd fs)) ∧ Q (.bl b) H
theorem call_isD {X : Cx} {a D : Addr} {oe : Obj} {d : Option Addr} {pn : List (Addr × Obj)} (C : ExcC X.K D) (hz : Zc (.ref D) d oe) (hf : ∃ vs, oe.data = .fields vs) : CallR (X.suite a ((a, oe) :: pn)) (.builtin "isinstance") (rIsD X.K D a d) := by
  intro pins s σ H xs us Q I r h
  obtain ⟨c, cv, b, rfl, hcv, e, hd, q⟩ := h
  cases r with
  | cons rx rr =>
    cases rr with
    | cons rt rr =>
      cases rr
      cases rx
      have ec := hcv _ rt
      subst ec
      obtain ⟨hget, _⟩ := I.pin (a, oe) (List.mem_append.mpr (.inl List.mem_cons_self))
      obtain ⟨vs, hv⟩ := hf
      have J : ∃ od, PySem.W.InstAt s.heap a oe D od := by
        cases d with
        | none =>
          refine ⟨none, ?_⟩
          obtain ⟨oc, od, oda, osl⟩ := oe
          obtain ⟨h1, h2⟩ := hz
          dsimp only at h1 h2 hv
          subst h1 h2 hv
          exact ⟨hget, rfl, rfl, trivial⟩
        | some dd =>
          obtain ⟨fs, ea⟩ := hd dd rfl
          have hx : ObjOk X.prog X.w H s.heap dd (.xd fs) := I.hok dd _ ea
          obtain ⟨mA, hns, hr⟩ := hx
          obtain ⟨od, ho, hl⟩ := lookIn_ns hns
          exact ⟨some od, ⟨hget, hz.1, by unfold PySem.W.notCls; rw [hv] <;> rfl, by rw [hz.2]; exact ho⟩⟩
      obtain ⟨od, J⟩ := J
      exact PySem.W.kia_one (kitx_excD C.hg C.hk C.hs C.hd C.ha C.hn C.ht C.hm) I.kIn J e (fun z => nomatch z) fun tk => ⟨.bl b, H, I.kept (t' := tk) fun _ _ z => z, rfl, q⟩
/-- X(), X an own exception class without own __init__ -/
theorem pmk_own0 {X : Cx} {C : Addr} {bmB : List Value} {B newId initId : String} {x : Str} {p pos : Pos} (F : PySem.ExcBaseFacts B newId initId bmB) (q : PySem.W.excIn X.K C bmB newId = true) (gC : X.mg x = some (.ref C))
    (kC : PySem.W.keepIn X.K (.ref C) = true) (r : Raises X (.ref C)) (hg : Gl X x) (hdb : (x == ("__debug__" : Str)) = false := by decide) : PMk X (.Call (.Name x p) [] [] pos) (fun _ H Q => Q (.ref C) none H) := by
  intro pins s σ H Q I h
  refine wpAny_Call_Name_kw (ld_glob I hg gC ?_ hdb)
  refine PySem.W.callWith_K0 I.kIn kC ?_
  show wpAny _ _ (call (.ref C) []) _ _ _
  obtain ⟨bm, N, nm, qn, bs, hdct, sn, sub, ab, col, dd, k0, k1, k2, k3, k5, mN, hC, hN, hni, T⟩ := exc_obj I.kIn q
  refine wpAny_call_exc_subT F T hC hN hni (fun h' e hm => ?_) (Nat.zero_le _)
  exact mk_of I hm r h (I.hok.gone hm.new)
/-- def __init__(self, y): self.f = y -/
def spIni (c : Addr) (f : Str) : Sp := fun vs H Q _ => ∃ (a : Addr) (y : V), vs = [.ref a, y] ∧ H a = some (exo a c none) ∧ ∀ dx, H dx = none → dx ≠ a → Q .non (upd (upd H dx (exd dx [(f, y)])) a (exo a c (some dx)))
theorem fn_ini {P : Program} {w : World} {K : PySem.W.Frag} {mg : Str → Option Value} {base : Heap} {c fI : Addr} {f sf pn qual : Str} {params : Arguments} {scope : Scope} {dV kV dc pm cdv ct oc : Value} {an od : Option Addr} {osl : Array (Option Value)} {p3 p4 p5 p6 : Pos}
    (T : OexC K c) (hno : PySem.W.findIn K (.ref c) f = some none)
    (lk : K.lookup fI = some ⟨oc, od, .func (PySem.W.fnOf "__init__" qual params [.Assign [.Attribute (.Name sf p3) f p4] (.Name pn p5) p6] scope dV kV dc pm an cdv ct), osl⟩) (hcd : PySem.W.codeIn K cdv qual = true) (S : FnScope [sf, pn] [sf, pn] scope)
    (d1 : (sf == ("__debug__" : Str)) = false) (d2 : (sf == ("__classdict__" : Str)) = false) (d3 : (pn == ("__debug__" : Str)) = false) (d4 : (pn == ("__classdict__" : Str)) = false) :
    FnOk P w K mg base C8.CX0 1 fI (PySem.W.fnOf "__init__" qual params [.Assign [.Attribute (.Name sf p3) f p4] (.Name pn p5) p6] scope dV kV dc pm an cdv ct) [sf, pn] (spIni c f) := by
  refine fn_of (k := 0) lk hcd S (fun vs H Q E h => ?_) fun A outer s H vs Q E hr hsp => ?_
  · obtain ⟨a, y, rfl, _⟩ := h
    rfl
  · have v1 : Vis scope sf := (S.par sf (by simp)).elim .inl fun z => .inr (.inl z)
    have v2 : Vis scope pn := (S.par pn (by simp)).elim .inl fun z => .inr (.inl z)
    refine ⟨_, pss_one (ps_ost (pe_var (i := 0) rfl v1 d1 d2) (pe_var (i := 1) rfl v2 d3 d4)), ?_⟩
    obtain ⟨a, y, rfl, ha, q⟩ := hsp
    exact ⟨y, rfl, .ref a, rfl, a, c, rfl, T, hno, .inl ⟨ha, fun dx h1 h2 => q dx h1 h2⟩⟩
end PT
/-! ### a lambda without parameters handed to a def: nothing but the one table is written -/
namespace PT
open PySem PySem.Spec PyProof.Rows L2 LamX
/-- all is kept but what stands at P -/
def ExtP (P : Addr) (H H1 : Hp) : Prop := ∀ b o, b ≠ P → H b = some o → H1 b = some o
section
variable {X : Cx} {pins : List (Addr × Obj)} {σ : L2.St} {H : Hp} {s : Shared}
theorem lamMk {c P : Addr} {params : Arguments} {body : Expr} {scope : Scope} {pos : Pos} {E : Value → Shared → Prop} {Q : Value → Shared → Prop} (I : Inv X pins σ H s) (TB : LamX.TabB X.base X.mg c P) (hcode : X.env.code = .ref c)
    (hT : TabS H P (X.env.qual ++ "<lambda>")) (hdef : defaultsOf params X.env = ([], [])) (hfree : ∀ y ∈ scope.names, y.2 = .free → ∃ c, X.env.cells.lookup y.1 = some c)
    (h : ∀ (f c' : Addr) (pm ctv : Value) (H1 : Hp) (s' : Shared), Inv X pins σ H1 s' → ExtP P H H1 → TabS H1 P (X.env.qual ++ "<lambda>") →
      s'.heap.get? f = some (PySem.W.kla_obj "<lambda>" (X.env.qual ++ "<lambda>") params body scope (cloFrom X.env.cells scope.names []) pm c' ctv) → H1 f = none → f ∉ frs X.stack → H1 c' = some (CodeO c' (X.env.qual ++ "<lambda>")) → Q (.ref f) s') :
    wpAny (model X.prog X.w) X.A (eval (.Lambda params body scope pos) X.env) Q E s := by
  generalize hq : X.env.qual ++ "<lambda>" = q at *
  obtain ⟨ps, hP, ht, ha⟩ := hT
  refine PySem.W.kla_eval hdef ?_
  have bP := TB.bm.keeps I.bk
  have hP' : s.heap.get? P = some { cls := .none, data := .fields ps } := I.hok P _ hP
  have far : ∀ f, s.heap.objs.size ≤ f → f ∉ frs X.stack := fun f hf z => (List.mem_cons.mp (I.stkSub _ z)).elim (fun e => by have h1 := I.lt; rw [← e] at h1; exact absurd (Nat.lt_of_lt_of_le h1 hf) (Nat.lt_irrefl _)) fun e => I.nofs hf e
  cases hc : codeAmong pos ps.toList with
  | some cv =>
    obtain ⟨c', rfl, hco⟩ := ha pos cv hc
    refine PySem.W.kla_makeFunctionHit (mg := X.mg) (c := c) (P := P) (ps := ps) (closure_ok hfree) I.ok.glob (I.mod.glob.keeps I.bk) hcode (TB.code.keeps I.bk) hP' ht hc bP fun ctv h' tk hx hsz => ?_
    rw [hq]
    exact h h'.objs.size c' ((X.mg "__name__").getD .none) ctv H _ (I.kept fun b o e => Heap.get?_push_of_some _ (hx b o e)) (fun _ _ _ z => z) ⟨ps, hP, ht, ha⟩ (Heap.get?_push_size _ rfl) (I.hok.fresh hsz) (far _ hsz) hco
  | none =>
    refine PySem.W.kla_makeFunction (mg := X.mg) (c := c) (P := P) (ps := ps) (closure_ok hfree) I.ok.glob (I.mod.glob.keeps I.bk) hcode (TB.code.keeps I.bk) hP' ht hc TB.gP bP fun c' ctv h' tk hx hge hlt hrec htb => ?_
    rw [hq] at hrec ⊢
    obtain ⟨c2, oc, vs, t, e2, hoc, hd, hv⟩ := hrec
    cases e2
    have hsz : s.heap.objs.size ≤ h'.objs.size := Nat.le_trans hge (Nat.le_of_lt hlt)
    have nC : H c' = none := I.hok.fresh hge
    have nCP : P ≠ c' := ne_of_none hP nC
    have I1 := inv_table (t' := tk) (more := #[rawInt pos.line, rawInt pos.col, .ref c']) (h' := h'.push (PySem.W.kla_obj "<lambda>" q params body scope (cloFrom X.env.cells scope.names []) ((X.mg "__name__").getD .none) c' ctv)) I hP
      (fun b o hb e => Heap.get?_push_of_some _ (hx b o hb e)) (Heap.get?_push_of_some _ htb) hge ⟨oc, vs, t, Heap.get?_push_of_some _ hoc, hd, hv⟩
    have hE : ExtP P H (upd (upd H P (.tbl (ps ++ #[rawInt pos.line, rawInt pos.col, .ref c']))) c' (CodeO c' q)) := fun b o n e => by
      rw [upd_ne (ne_of_none e nC), upd_ne n]
      exact e
    refine h h'.objs.size c' ((X.mg "__name__").getD .none) ctv _ _ I1 hE ?_ (Heap.get?_push_size _ rfl) ?_ (far _ hsz) upd_same
    · have eL : (ps ++ #[rawInt pos.line, rawInt pos.col, .ref c']).toList = ps.toList ++ [rawInt pos.line, rawInt pos.col, .ref c'] := by simp
      refine ⟨_, by rw [upd_ne nCP, upd_same], by rw [eL]; exact PySem.TriplesOk_snoc _ _ _ _ ht, fun p' cv hcv => ?_⟩
      rw [eL] at hcv
      rcases among_app _ ht hcv with z | z
      · obtain ⟨c0, e1, e2⟩ := ha p' cv z
        exact ⟨c0, e1, hE _ _ (fun y => codeO_ne ps (by rw [y, hP] at e2; exact (Option.some.inj e2).symm)) e2⟩
      · exact ⟨c', z, upd_same⟩
    · rw [upd_ne (Nat.ne_of_gt hlt), upd_ne (Nat.ne_of_gt (Nat.lt_of_lt_of_le (Heap.lt_size hP') hsz))]
      exact I.hok.fresh hsz
end
def tLamP (P : Addr) (q : Str) (TT : (XK → Hp → VK → Prop) → Hp → VK → Prop) (t : XK → TE) : TE := fun σ H Q => TabS H P q ∧ ∀ H1, ExtP P H H1 → TabS H1 P q → TT (fun E H' Q' => t E σ H' Q') H1 Q
/-- x(lambda: body) -/
theorem pe_lamP {X : Cx} {TT : (XK → Hp → VK → Prop) → Hp → VK → Prop} {x a : Str} {g c P : Addr} {k : Nat} {pg : Arguments} {bg : List Stmt} {sg : Scope} {dV kV doc pm cdv ct oc : Value} {an od : Option Addr} {osl : Array (Option Value)} {Ng : List Str}
    {params : Arguments} {body : Expr} {scope : Scope} {t : XK → TE} {p lpos pos : Pos} (hg : Gl X x) (hm : X.mg x = some (.ref g)) (hk : PySem.W.keepIn X.K (.ref g) = true)
    (lk : X.K.lookup g = some ⟨oc, od, .func (PySem.W.fnOf x x pg bg sg dV kV doc pm an cdv ct), osl⟩) (hcg : PySem.W.codeIn X.K cdv x = true) (hb : L2.Binds X.K (PySem.W.fnOf x x pg bg sg dV kV doc pm an cdv ct) [a] []) (Sg : FnScope Ng [a] sg) (hNg : Ng[0]? = some a) (hva : Vis sg a)
    (hG : GivesTo X Ng x sg g cdv bg a (X.env.qual ++ "<lambda>") TT)
    (TB : LamX.TabB X.base X.mg c P) (hcode : X.env.code = .ref c) (hr : Room (k + 2) X.A) (L : LamS X.env.scope scope) (hdef : defaultsOf params X.env = ([], []))
    (hbind : ∀ (q : Str) (cl : List (Str × Addr)) (pm cv ctv : Value), bindArgs (PySem.W.kla_fn "<lambda>" q params body scope cl pm cv ctv) ⟨[], []⟩ = pure [])
    (hbody : ∀ (A : Around) (outer : List Env) (s : Shared) (H : Hp) (E : XK) (f c' : Addr), Room k (A.deeper (lamEnv X scope s.heap.objs.size f c')) → PE (lamCx X A outer s H E scope f c') body (t E))
    (hdb : (x == ("__debug__" : Str)) = false := by decide) (hd : (a == ("__debug__" : Str)) = false := by decide) (hcd : (a == ("__classdict__" : Str)) = false := by decide) :
    PE X (.Call (.Name x p) [.Lambda params body scope lpos] [] pos) (tLamP P (X.env.qual ++ "<lambda>") TT t) := by
  refine ⟨fun pins s σ H Q I h => ?_⟩
  refine wpAny_Call_Name_kw (ld_glob I hg hm ?_ hdb)
  refine PySem.W.callWith_K (h₀ := X.base) I.ok.mod.kin hk ?_ (by rfl) (by rfl)
  refine Calls.spliced_cons (lamMk I TB hcode h.1 hdef (L.has I.ok) fun f c' pm' ctv H1 s' I1 eP T1 hf hfn hfr hco => Calls.spliced_nil ⟨I1.kIn, ?_⟩)
  have rc : codeAny (model X.prog X.w) X.A (.call (.ref g) ⟨[.ref f], []⟩) (CR C8.CX0 X.stack X.prog X.w H1 s' Q C8.E0) s' := by
    refine run_ofS (N := Ng) (ps := [a]) (us := [.ref f]) (vs := [.ref f]) lk hcg Sg hr I1.env0 (hb s' [.ref f] I1.kIn rfl) (.cons rfl .nil) rfl fun hr' => ?_
    obtain ⟨t', ht', hq'⟩ := hG f c' s' H1 Q (fun E H' Q' => t E σ H' Q') (fun W pn xe E p1 p2 tk hW => pe_act (i := 0) I1 L hf hfn hfr (hbind _ _ _ _ _) tk hW hr' (fun A outer s H hr2 => hbody A outer s H E f c' hr2) hNg hva hd hcd) hco (h.2 H1 eP T1)
    exact ⟨t', ht'.nox, hq'⟩
  refine wpAny_call (codeAny_mono rc fun r s2 hq => ?_)
  rcases r with e | fl
  · exact (show False from hq).elim
  · cases fl with
    | ret u => exact I1.after hq
    | next => exact False.elim hq
    | brk => exact False.elim hq
    | cont => exact False.elim hq
end PT
/-! ### data in the heap -/
namespace Ev
open PySem PySem.Spec PyProof.Rows L2
abbrev TabG := GxR.TabG
/-- a def's table of code objects: none: of generator expressions; q: of lambdas of that name -/
abbrev Tab := Addr × Option Str
def TbOk (H : Hp) (p : Tab) : Prop := match p.2 with
  | none => TabG H p.1
  | some q => LamX.TabS H p.1 q
theorem TbOk.keep {H H' : Hp} {p : Tab} (h : TbOk H p) (k1 : ∀ ps, H p.1 = some (.tbl ps) → H' p.1 = some (.tbl ps)) (k2 : ∀ c q, H c = some (LamX.CodeO c q) → H' c = some (LamX.CodeO c q)) : TbOk H' p := by
  obtain ⟨P, q⟩ := p
  cases q with
  | none =>
    obtain ⟨ps, e, t⟩ := h
    exact ⟨ps, k1 _ e, t⟩
  | some q =>
    obtain ⟨ps, e, t, u⟩ := h
    refine ⟨ps, k1 _ e, t, fun pos cv hc => ?_⟩
    obtain ⟨c, e1, e2⟩ := u pos cv hc
    exact ⟨c, e1, k2 _ _ e2⟩
/-- what may be overwritten: no table, no code object -/
def Soft (a : Addr) (o : HO) : Prop := (∀ ps, o ≠ .tbl ps) ∧ ∀ q, o ≠ LamX.CodeO a q
theorem codeO_isX (a : Addr) (q : Str) : ∃ φ, LamX.CodeO a q = .ext φ := ⟨_, rfl⟩
theorem Soft.of {a : Addr} {o : HO} (h1 : ∀ ps, o ≠ .tbl ps) (h2 : ∀ φ, o ≠ .ext φ) : Soft a o := And.intro h1 fun q z => (codeO_isX a q).elim fun φ e => h2 φ (z.trans e)
theorem Soft.lst {a : Addr} {xs : List V} : Soft a (.lst xs) := Soft.of (fun ps z => by cases z) fun φ z => by cases z
theorem Soft.dK {a : Addr} {xs : List (Key × V)} : Soft a (.dK xs) := Soft.of (fun ps z => by cases z) fun φ z => by cases z
theorem Soft.dtt {a : Addr} {xs : List PT.KEnt} : Soft a (PT.dtO a xs) := And.intro (fun ps z => by cases z) fun q z => by
  have e : PT.DT a xs = fun h : Heap => ∃ (oc : Obj) (vs : Array Value) (t : Tok), h.get? a = some oc ∧ oc.data = .fields vs ∧ vs[1]? = some (.str q t) := by
    have z : HO.ext (PT.DT a xs) = HO.ext _ := z
    injection z
  let oc : Obj := { cls := .none, data := .fields #[.none, .str q 0] }
  let h : Heap := { objs := Array.replicate (a + 1) oc }
  have hg : h.get? a = some oc := by
    have e0 : h.objs[a]? = some oc := by
      show (Array.replicate (a + 1) oc)[a]? = some oc
      simp
    unfold PySem.Heap.get?
    rw [e0]
  have k : PT.DT a xs h := by
    rw [e]
    exact ⟨oc, _, 0, hg, rfl, rfl⟩
  obtain ⟨_, _, o, es, ep, h1, _, h2, _⟩ := k
  rw [hg] at h1
  cases h1
  cases h2
theorem TbOk.over {H : Hp} {p : Tab} {a : Addr} {o o' : HO} (h : TbOk H p) (hp : H a = some o) (ho : Soft a o) : TbOk (upd H a o') p := h.keep
  (fun ps e => by rw [upd_ne (fun z => by rw [z, hp] at e; exact ho.1 ps (Option.some.inj e))]; exact e) fun c q e => by rw [upd_ne (fun z => by rw [z, hp] at e; subst z; exact ho.2 q (Option.some.inj e))]; exact e
theorem TbOk.new {H : Hp} {p : Tab} {a : Addr} {o : HO} (h : TbOk H p) (hp : H a = none) : TbOk (upd H a o) p := h.keep (fun ps e => by rw [upd_ne (ne_of_none e hp)]; exact e) fun c q e => by rw [upd_ne (ne_of_none e hp)]; exact e

def keyD : Key → D
  | .inl i => .int i
  | .inr x => .str x
def keyT (k : List Key) : D := .tup (k.map keyD)
section
variable (K : PySem.W.Frag) (fa : Nat → Option Addr) (G : Hp)
mutual
/-- a value stands for data; all of it in G -/
def Rp : D → V → Prop
  | .non, v => v = .non
  | .bl b, v => v = .bl b
  | .int i, v => v = .int i
  | .str x, v => v = .str x ∧ PyData.strOk x = true
  | .tup ds, v => ∃ a xs, v = .ref a ∧ PT.PlT G a xs ∧ RpL ds xs
  | .lst ds, v => ∃ a xs, v = .ref a ∧ G a = some (.lst xs) ∧ RpL ds xs
  | .rol ds, v => ∃ a xs, v = .ref a ∧ SqL K G a xs ∧ RpL ds xs
  | .dct kvs, v => ∃ a, v = .ref a ∧ ∃ ks, G a = some (.dK ks) ∧ RpK kvs ks
  | .dtt kvs, v => ∃ a, v = .ref a ∧ ∃ xs, G a = some (PT.dtO a xs) ∧ RpT kvs xs
  | .fn n, v => ∃ a, fa n = some a ∧ v = .ref a
  | .obj _ _, _ => False
def RpL : List D → List V → Prop
  | [], vs => vs = []
  | d :: ds, vs => ∃ v r, vs = v :: r ∧ Rp d v ∧ RpL ds r
def RpK : List (D × D) → List (Key × V) → Prop
  | [], vs => vs = []
  | (k, d) :: ds, vs => ∃ q v r, vs = (q, v) :: r ∧ k = keyD q ∧ Rp d v ∧ RpK ds r
def RpT : List (D × D) → List PT.KEnt → Prop
  | [], vs => vs = []
  | (k, d) :: ds, vs => ∃ ks b u v r, vs = (ks, b, u) :: r ∧ k = .tup (ks.map .int) ∧ PT.PlT G b (ks.map V.int) ∧ RelV v u ∧ Rp d v ∧ RpT ds r
end
/-- a list or dict in H whose parts are in G -/
def Top (H : Hp) : D → V → Prop
  | .lst ds, v => ∃ a xs, v = .ref a ∧ H a = some (.lst xs) ∧ RpL K fa G ds xs
  | .dct kvs, v => ∃ a, v = .ref a ∧ ∃ ks, H a = some (.dK ks) ∧ RpK K fa G kvs ks
  | .dtt kvs, v => ∃ a, v = .ref a ∧ ∃ xs, H a = some (PT.dtO a xs) ∧ RpT K fa G kvs xs
  | d, v => Rp K fa G d v
/-- .. that is nobody else's -/
def TopM (H : Hp) : D → Addr → Prop
  | .lst ds, a => G a = none ∧ ∃ xs, H a = some (.lst xs) ∧ RpL K fa G ds xs
  | .dct kvs, a => G a = none ∧ ∃ ks, H a = some (.dK ks) ∧ RpK K fa G kvs ks
  | .dtt kvs, a => G a = none ∧ ∃ xs, H a = some (PT.dtO a xs) ∧ RpT K fa G kvs xs
  | _, _ => False
end

section
variable {K : PySem.W.Frag} {fa : Nat → Option Addr} {G G' H H' : Hp}
def Sub (G G' : Hp) : Prop := ∀ b o, G b = some o → G' b = some o
theorem Sub.refl (G : Hp) : Sub G G := fun _ _ h => h
theorem Sub.trans {G1 G2 G3 : Hp} (a : Sub G1 G2) (b : Sub G2 G3) : Sub G1 G3 := fun c o h => b c o (a c o h)
theorem Sub.l {a : Addr} {xs : List V} (e : Sub G G') (h : SqL K G a xs) : SqL K G' a xs := by
  rcases h with (h | ⟨o, h⟩) | h
  · exact .inl (.inl (e _ _ h))
  · exact .inl (.inr ⟨o, e _ _ h⟩)
  · exact .inr h
theorem Sub.t {a : Addr} {xs : List V} (e : Sub G G') (h : SqT K G a xs) : SqT K G' a xs := by
  rcases h with (h | ⟨o, h⟩) | h
  · exact .inl (.inl (e _ _ h))
  · exact .inl (.inr ⟨o, e _ _ h⟩)
  · exact .inr h
theorem Sub.new {p : Addr} {o : HO} (h : G p = none) : Sub G (upd G p o) := fun b u e => by
  rw [upd_ne (ne_of_none e h)]
  exact e
mutual
theorem Rp.mono (e : Sub G G') : ∀ {d : D} {v : V}, Rp K fa G d v → Rp K fa G' d v
  | .non, _, h => h
  | .bl _, _, h => h
  | .int _, _, h => h
  | .str _, _, h => h
  | .tup _, _, ⟨a, xs, e1, h1, h2⟩ => ⟨a, xs, e1, h1.mono e, RpL.mono e h2⟩
  | .lst _, _, ⟨a, xs, e1, h1, h2⟩ => ⟨a, xs, e1, e _ _ h1, RpL.mono e h2⟩
  | .rol _, _, ⟨a, xs, e1, h1, h2⟩ => ⟨a, xs, e1, e.l h1, RpL.mono e h2⟩
  | .dct _, _, ⟨a, e1, ks, h1, h2⟩ => ⟨a, e1, ks, e _ _ h1, RpK.mono e h2⟩
  | .dtt _, _, ⟨a, e1, ks, h1, h2⟩ => ⟨a, e1, ks, e _ _ h1, RpT.mono e h2⟩
  | .fn _, _, h => h
theorem RpL.mono (e : Sub G G') : ∀ {ds : List D} {vs : List V}, RpL K fa G ds vs → RpL K fa G' ds vs
  | [], _, h => h
  | _ :: _, _, ⟨v, r, e1, h1, h2⟩ => ⟨v, r, e1, Rp.mono e h1, RpL.mono e h2⟩
theorem RpK.mono (e : Sub G G') : ∀ {ds : List (D × D)} {vs : List (Key × V)}, RpK K fa G ds vs → RpK K fa G' ds vs
  | [], _, h => h
  | (_, _) :: _, _, ⟨q, v, r, e1, e2, h1, h2⟩ => ⟨q, v, r, e1, e2, Rp.mono e h1, RpK.mono e h2⟩
theorem RpT.mono (e : Sub G G') : ∀ {ds : List (D × D)} {vs : List PT.KEnt}, RpT K fa G ds vs → RpT K fa G' ds vs
  | [], _, h => h
  | (_, _) :: _, _, ⟨ks, b, u, v, r, e1, e2, h0, h1, h2, h3⟩ => ⟨ks, b, u, v, r, e1, e2, h0.mono e, h1, Rp.mono e h2, RpT.mono e h3⟩
end
theorem Rp.top (e : Sub G H) : ∀ {d : D} {v : V}, Rp K fa G d v → Top K fa G H d v
  | .non, _, h => h
  | .bl _, _, h => h
  | .int _, _, h => h
  | .str _, _, h => h
  | .tup _, _, h => h
  | .fn _, _, h => h
  | .rol _, _, h => h
  | .lst _, _, ⟨a, xs, e1, h1, h2⟩ => ⟨a, xs, e1, e _ _ h1, h2⟩
  | .dct _, _, ⟨a, e1, ks, h1, h2⟩ => ⟨a, e1, ks, e _ _ h1, h2⟩
  | .dtt _, _, ⟨a, e1, ks, h1, h2⟩ => ⟨a, e1, ks, e _ _ h1, h2⟩
theorem TopM.top : ∀ {d : D} {a : Addr}, TopM K fa G H d a → Top K fa G H d (.ref a)
  | .lst _, a, ⟨_, xs, h1, h2⟩ => ⟨a, xs, rfl, h1, h2⟩
  | .dct _, a, ⟨_, h⟩ => ⟨a, rfl, h⟩
  | .dtt _, a, ⟨_, h⟩ => ⟨a, rfl, h⟩
/-- nothing of H's is lost -/
theorem Top.mono (e : Sub G G') (k : ∀ b o, H b = some o → (∀ ps, o ≠ .tbl ps) → H' b = some o) : ∀ {d : D} {v : V}, Top K fa G H d v → Top K fa G' H' d v
  | .non, _, h => h
  | .bl _, _, h => h
  | .int _, _, h => h
  | .str _, _, h => h
  | .fn _, _, h => h
  | .tup _, _, h => Rp.mono e (d := .tup _) h
  | .rol _, _, h => Rp.mono e (d := .rol _) h
  | .lst _, _, ⟨a, xs, e1, h1, h2⟩ => ⟨a, xs, e1, k _ _ h1 (fun ps z => by cases z), RpL.mono e h2⟩
  | .dct _, _, ⟨a, e1, ks, h1, h2⟩ => ⟨a, e1, ks, k _ _ h1 (fun ps z => by cases z), RpK.mono e h2⟩
  | .dtt _, _, ⟨a, e1, ks, h1, h2⟩ => ⟨a, e1, ks, k _ _ h1 (fun ps z => by cases z), RpT.mono e h2⟩
theorem TopM.isC : ∀ {d : D} {a : Addr}, TopM K fa G H d a → isC d = true
  | .lst _, _, _ => rfl
  | .dct _, _, _ => rfl
  | .dtt _, _, _ => rfl
theorem TopM.none : ∀ {d : D} {a : Addr}, TopM K fa G H d a → G a = none
  | .lst _, _, h => h.1
  | .dct _, _, h => h.1
  | .dtt _, _, h => h.1
theorem TopM.there : ∀ {d : D} {a : Addr}, TopM K fa G H d a → ∃ o, H a = some o ∧ ∀ ps, o ≠ .tbl ps
  | .lst _, _, ⟨_, xs, h, _⟩ => ⟨_, h, fun ps z => by cases z⟩
  | .dct _, _, ⟨_, ks, h, _⟩ => ⟨_, h, fun ps z => by cases z⟩
  | .dtt _, _, ⟨_, ks, h, _⟩ => ⟨_, h, fun ps z => by cases z⟩
theorem TopM.mono (e : Sub G G') {a : Addr} (hn : G' a = Option.none) (k : ∀ o, H a = some o → H' a = some o) : ∀ {d : D}, TopM K fa G H d a → TopM K fa G' H' d a
  | .lst _, ⟨_, xs, h1, h2⟩ => ⟨hn, xs, k _ h1, RpL.mono e h2⟩
  | .dct _, ⟨_, ks, h1, h2⟩ => ⟨hn, ks, k _ h1, RpK.mono e h2⟩
  | .dtt _, ⟨_, ks, h1, h2⟩ => ⟨hn, ks, k _ h1, RpT.mono e h2⟩
/-- it is frozen from now on -/
theorem TopM.frozen {a : Addr} {o : HO} (ho : H a = some o) (hn : G a = Option.none) : ∀ {d : D}, TopM K fa G H d a → Rp K fa (upd G a o) d (.ref a)
  | .lst _, ⟨_, xs, h1, h2⟩ => ⟨a, xs, rfl, (by rw [upd_same, ← ho, h1]), RpL.mono (Sub.new hn) h2⟩
  | .dct _, ⟨_, ks, h1, h2⟩ => ⟨a, rfl, ks, by rw [upd_same, ← ho, h1], RpK.mono (Sub.new hn) h2⟩
  | .dtt _, ⟨_, ks, h1, h2⟩ => ⟨a, rfl, ks, by rw [upd_same, ← ho, h1], RpT.mono (Sub.new hn) h2⟩
end

/-! ### the context, the state -/
/-- what is fixed: the program's part; a def's part -/
structure Cn where
  prog : Program
  w : World
  K : PySem.W.Frag
  mg : Str → Option Value
  base : Heap
  fa : Nat → Option Addr
  tabs : List Tab
  N : List Str
  cl : Nat → Cls
  call : Nat → List D → Res (D × D)
  fuel : Nat
  lev : Nat
  W : XK
  exr : Nat → D → Value → Option Addr → Hp → Prop
  cx : CXT
/-- the entry: what was frozen, what was tracked, the first parameter's object where it is changed -/
structure En where
  G0 : Hp
  H0 : Hp
  io : Option Addr

/-- from one state to a later one; M: the addresses whose content may have changed -/
structure Go (tabs : List Tab) (M : Addr → Prop) (G H G' H' : Hp) : Prop where
  ext : Sub G G'
  new : ∀ b, G' b ≠ none → G b ≠ none ∨ H b = none
  keep : ∀ b o, H b = some o → ¬ M b → (∀ ps, o ≠ .tbl ps) → H' b = some o
  tbl : ∀ b ps, H b = some (.tbl ps) → ∃ ps', H' b = some (.tbl ps')
  tabg : ∀ P ∈ tabs, TbOk H P → TbOk H' P
  dom : ∀ b, H b ≠ none → H' b ≠ none
theorem Go.refl (tabs : List Tab) (M : Addr → Prop) (G H : Hp) : Go tabs M G H G H := ⟨Sub.refl _, fun _ h => .inl h, fun _ _ h _ _ => h, fun _ ps h => ⟨ps, h⟩, fun _ _ h => h, fun _ h => h⟩
theorem Go.back {tabs : List Tab} {M : Addr → Prop} {G H G' H' : Hp} (g : Go tabs M G H G' H') {b : Addr} (h : H' b = none) : H b = none := by
  cases q : H b with
  | none => rfl
  | some o => exact absurd h (g.dom b (by rw [q]; simp))
theorem Go.trans {tabs : List Tab} {M : Addr → Prop} {G H G1 H1 G2 H2 : Hp} (a : Go tabs M G H G1 H1) (b : Go tabs M G1 H1 G2 H2) : Go tabs M G H G2 H2 where
  ext := a.ext.trans b.ext
  new := fun c h => by
    rcases b.new c h with h | h
    · exact a.new c h
    · exact .inr (a.back h)
  keep := fun c o h m t => b.keep c o (a.keep c o h m t) m t
  tbl := fun c ps h => by
    obtain ⟨ps', h'⟩ := a.tbl c ps h
    exact b.tbl c ps' h'
  tabg := fun P m h => b.tabg P m (a.tabg P m h)
  dom := fun c h => b.dom c (a.dom c h)
theorem Go.weak {tabs : List Tab} {M M' : Addr → Prop} {G H G' H' : Hp} (g : Go tabs M G H G' H') (h : ∀ b, M b → M' b) : Go tabs M' G H G' H' :=
  ⟨g.ext, g.new, fun c o e m t => g.keep c o e (fun z => m (h c z)) t, g.tbl, g.tabg, g.dom⟩

/-- the addresses of the slots that the def changes -/
def Ms (C : Cn) (σ : L2.St) (b : Addr) : Prop := ∃ i, C.cl i = .mu ∧ σ[i]? = some (some (.ref b))
structure Fr (C : Cn) (N : En) (G H : Hp) (ε : Env) (σ : L2.St) : Prop where
  sub : Sub G H
  ntb : ∀ b ps, G b ≠ some (.tbl ps)
  tab : ∀ P ∈ C.tabs, TbOk H P
  len : ε.length = σ.length
  ln : σ.length = C.N.length
  pl : ∀ i d, C.cl i = .pl → ε[i]? = some (some d) → ∃ v, σ[i]? = some (some v) ∧ Rp C.K C.fa G d v
  mu : ∀ i d, C.cl i = .mu → ε[i]? = some (some d) → ∃ a, σ[i]? = some (some (.ref a)) ∧ TopM C.K C.fa G H d a
  bo : ∀ i d, C.cl i = .bo → ε[i]? = some (some d) → ∃ v, σ[i]? = some (some v) ∧ Top C.K C.fa G H d v
  boc : ∀ i d, C.cl i = .bo → ε[i]? = some (some d) → isC d = true
  dis : ∀ i j a, C.cl i ≠ .pl → C.cl j = .mu → σ[i]? = some (some (.ref a)) → σ[j]? = some (some (.ref a)) → i = j
  dm : ∀ i a, C.cl i ≠ .pl → σ[i]? = some (some (.ref a)) → H a ≠ none
  go : Go C.tabs (fun b => N.io = some b) N.G0 N.H0 G H
  fre : ∀ i a, C.cl i = .mu → σ[i]? = some (some (.ref a)) → N.H0 a = none ∨ N.io = some a
  io : ∀ a, N.io = some a → C.cl 0 = .mu ∧ σ[0]? = some (some (.ref a)) ∧ ∃ d, ε[0]? = some (some d)

section
variable {C : Cn} {N : En} {G H G' H' : Hp} {ε ε' : Env} {σ : L2.St}
/-- a step that leaves the changed slots' objects: the state afterwards -/
theorem Fr.step (F : Fr C N G H ε σ) (g : Go C.tabs (fun _ => False) G H G' H') (sub : Sub G' H') (ntb : ∀ b ps, G' b ≠ some (.tbl ps)) : Fr C N G' H' ε σ where
  sub := sub
  ntb := ntb
  tab := fun P m => g.tabg P m (F.tab P m)
  len := F.len
  ln := F.ln
  pl := fun i d c e => by
    obtain ⟨v, h1, h2⟩ := F.pl i d c e
    exact ⟨v, h1, h2.mono g.ext⟩
  mu := fun i d c e => by
    obtain ⟨a, h1, h2⟩ := F.mu i d c e
    refine ⟨a, h1, h2.mono g.ext ?_ fun o ho => ?_⟩
    · cases q : G' a with
      | none => rfl
      | some o =>
        rcases g.new a (by rw [q]; simp) with z | z
        · exact absurd h2.none z
        · exact absurd z (F.dm i a (by rw [c]; simp) h1)
    · obtain ⟨o', h3, h4⟩ := h2.there
      rw [ho] at h3
      cases h3
      exact g.keep a o ho (fun z => z) h4
  bo := fun i d c e => by
    obtain ⟨v, h1, h2⟩ := F.bo i d c e
    exact ⟨v, h1, h2.mono g.ext fun b o h t => g.keep b o h (fun z => z) t⟩
  boc := F.boc
  dis := F.dis
  dm := fun i a c h => g.dom a (F.dm i a c h)
  go := F.go.trans (g.weak fun _ z => z.elim)
  fre := F.fre
  io := F.io
/-- a new object that is frozen at once -/
theorem Fr.new (F : Fr C N G H ε σ) {p : Addr} {o : HO} (hp : H p = none) (ho : ∀ ps, o ≠ .tbl ps) : Fr C N (upd G p o) (upd H p o) ε σ ∧ Go C.tabs (fun _ => False) G H (upd G p o) (upd H p o) := by
  have hg : G p = none := by
    cases q : G p with
    | none => rfl
    | some u => rw [F.sub p u q] at hp; cases hp
  have g : Go C.tabs (fun _ => False) G H (upd G p o) (upd H p o) := ⟨Sub.new hg, fun b h => by
    by_cases hb : b = p
    · rw [hb]; exact .inr hp
    · rw [upd_ne hb] at h; exact .inl h, fun b u e _ _ => by rw [upd_ne (ne_of_none e hp)]; exact e, fun b ps e => ⟨ps, by rw [upd_ne (ne_of_none e hp)]; exact e⟩,
    fun P _ t => t.new hp, fun b h => by
      unfold upd
      split
      · simp
      · exact h⟩
  refine ⟨F.step g (fun b u e => ?_) fun b ps e => ?_, g⟩
  · by_cases hb : b = p
    · rw [hb, upd_same] at e ⊢; exact e
    · rw [upd_ne hb] at e ⊢; exact F.sub b u e
  · by_cases hb : b = p
    · rw [hb, upd_same] at e; exact ho ps (Option.some.inj e)
    · rw [upd_ne hb] at e; exact F.ntb b ps e
/-- a new object that stays apart -/
theorem Fr.newH (F : Fr C N G H ε σ) {p : Addr} {o : HO} (hp : H p = none) : Fr C N G (upd H p o) ε σ ∧ Go C.tabs (fun _ => False) G H G (upd H p o) := by
  have g : Go C.tabs (fun _ => False) G H G (upd H p o) := ⟨Sub.refl _, fun b h => .inl h, fun b u e _ _ => by rw [upd_ne (ne_of_none e hp)]; exact e, fun b ps e => ⟨ps, by rw [upd_ne (ne_of_none e hp)]; exact e⟩,
    fun P _ t => t.new hp, fun b h => by
      unfold upd
      split
      · simp
      · exact h⟩
  exact ⟨F.step g (F.sub.trans (Sub.new hp)) F.ntb, g⟩
theorem Fr.gnone (F : Fr C N G H ε σ) {p : Addr} (hp : H p = none) : G p = none := by
  cases q : G p with
  | none => rfl
  | some u => rw [F.sub p u q] at hp; cases hp
/-- a slot is left out of sight -/
theorem Fr.drop (F : Fr C N G H ε σ) {i : Nat} (h0 : i ≠ 0) : Fr C N G H (ε.set i none) σ := by
  have key : ∀ (j : Nat) (d : D), (ε.set i none)[j]? = some (some d) → ε[j]? = some (some d) := fun j d e => by
    by_cases hj : i = j
    · subst hj
      by_cases hl : i < ε.length
      · rw [List.getElem?_set_self hl] at e; cases e
      · rw [List.getElem?_eq_none (by rw [List.length_set]; omega)] at e; cases e
    · rw [List.getElem?_set_ne hj] at e
      exact e
  exact ⟨F.sub, F.ntb, F.tab, by rw [List.length_set]; exact F.len, F.ln, fun j d c e => F.pl j d c (key j d e), fun j d c e => F.mu j d c (key j d e), fun j d c e => F.bo j d c (key j d e), fun j d c e => F.boc j d c (key j d e), F.dis, F.dm, F.go, F.fre, fun a h => by
    obtain ⟨h1, h2, d, h3⟩ := F.io a h
    exact ⟨h1, h2, d, by rw [List.getElem?_set_ne h0]; exact h3⟩⟩
/-- an object apart is frozen: p is no slot's -/
theorem Fr.freeze (F : Fr C N G H ε σ) {p : Addr} {o : HO} (hp : H p = some o) (hg : G p = none) (ht : ∀ ps, o ≠ .tbl ps) (h0 : N.H0 p = none) (hs : ∀ i d, C.cl i = .mu → ε[i]? = some (some d) → σ[i]? ≠ some (some (.ref p))) : Fr C N (upd G p o) H ε σ where
  sub := fun b u e => by
    by_cases hb : b = p
    · rw [hb, upd_same] at e; rw [hb, hp]; exact e
    · rw [upd_ne hb] at e; exact F.sub b u e
  ntb := fun b ps e => by
    by_cases hb : b = p
    · rw [hb, upd_same] at e; exact ht ps (Option.some.inj e)
    · rw [upd_ne hb] at e; exact F.ntb b ps e
  tab := F.tab
  len := F.len
  ln := F.ln
  pl := fun i d c e => by
    obtain ⟨v, h1, h2⟩ := F.pl i d c e
    exact ⟨v, h1, h2.mono (Sub.new hg)⟩
  mu := fun i d c e => by
    obtain ⟨a, h1, h2⟩ := F.mu i d c e
    refine ⟨a, h1, h2.mono (Sub.new hg) ?_ fun _ z => z⟩
    rw [upd_ne (fun z => hs i d c e (by rw [h1, z]))]
    exact h2.none
  bo := fun i d c e => by
    obtain ⟨v, h1, h2⟩ := F.bo i d c e
    exact ⟨v, h1, h2.mono (Sub.new hg) fun _ _ h _ => h⟩
  boc := F.boc
  dis := F.dis
  dm := F.dm
  go := ⟨F.go.ext.trans (Sub.new hg), fun b h => by
    by_cases hb : b = p
    · rw [hb]; exact .inr h0
    · rw [upd_ne hb] at h; exact F.go.new b h, F.go.keep, F.go.tbl, F.go.tabg, F.go.dom⟩
  fre := F.fre
  io := F.io
end
end Ev
/-! ### readings by evaluation: expressions -/
namespace Ev
open PySem PySem.Spec PyProof.Rows L2

def Mx (C : Cn) (σ : L2.St) (p : Bool) (b : Addr) : Prop := p = false ∧ Ms C σ b
inductive Mo where
  | esc | bor | frx
def RM (C : Cn) (m : Mo) (G' H H' : Hp) (d : D) (v : V) : Prop := match m with
  | .esc => Rp C.K C.fa G' d v
  | .bor => Top C.K C.fa G' H' d v
  | .frx => (isC d = true → ∃ p, v = .ref p ∧ H p = none ∧ TopM C.K C.fa G' H' d p) ∧ (isC d = false → Rp C.K C.fa G' d v)
/-- behind a step whose outcome is r -/
def Post {α : Type} (C : Cn) (N : En) (σ : L2.St) (p : Bool) (G H : Hp) (r : Res (α × Env)) (P : α → Hp → Hp → Env → Prop) : Prop := match r with
  | .ok q => ∀ G' H', Fr C N G' H' q.2 σ → Go C.tabs (Mx C σ p) G H G' H' → P q.1 G' H' q.2
  | .er c x => ∀ G' H' cls dd, Go C.tabs (Mx C σ p) G H G' H' → C.exr c x cls dd H' → C.W cls dd H'
  | .no => False
/-- an expression that evaluates as f -/
def tR (C : Cn) (p : Bool) (m : Mo) (f : Env → Res (D × Env)) : TE := fun σ H Q => ∃ N G ε, Fr C N G H ε σ ∧ Post C N σ p G H (f ε) fun d G' H' _ => ∀ v, RM C m G' H H' d v → Q v H'
/-- a test -/
def tT (C : Cn) (p : Bool) (f : Env → Res (D × Env)) : TT := fun σ H Q => ∃ N G ε, Fr C N G H ε σ ∧ Post C N σ p G H ((f ε).bind fun q => (truth q.1).bind fun t => .ok (t, q.2)) fun b _ H' _ => Q b H'
/-- items of a display -/
def tL (C : Cn) (p : Bool) (f : Env → Res (List D × Env)) : TA := fun σ H Q => ∃ N G ε, Fr C N G H ε σ ∧ Post C N σ p G H (f ε) fun ds G' H' _ => ∀ vs, RpL C.K C.fa G' ds vs → Q vs H'

theorem PE.imp {X : Cx} {e : Expr} {t t' : TE} (h : PE X e t) (k : ∀ σ H Q, t' σ H Q → t σ H Q) : PE X e t' := ⟨fun pins s σ H Q I w => h.run pins s σ H Q I (k σ H Q w)⟩
theorem PT.imp {X : Cx} {e : Expr} {t t' : TT} (h : PT X e t) (k : ∀ σ H Q, t' σ H Q → t σ H Q) : PT X e t' := ⟨fun pins s σ H Q I w => h.run pins s σ H Q I (k σ H Q w)⟩
theorem PW.imp {X : Cx} {e : Expr} {t t' : TT} (h : PW X e t) (k : ∀ σ H Q, t' σ H Q → t σ H Q) : PW X e t' := ⟨fun wh pins s σ H Q I w => h.run wh pins s σ H Q I (k σ H Q w)⟩
theorem PA.imp {X : Cx} {e : List Expr} {t t' : TA} (h : PA X e t) (k : ∀ σ H Q, t' σ H Q → t σ H Q) : PA X e t' := ⟨fun pos pins s σ H Q I w => h.run pos pins s σ H Q I (k σ H Q w)⟩

section
variable {C : Cn} {N : En} {σ : L2.St} {G H : Hp} {ε : Env} {α β : Type}
theorem Mx.true_ {b : Addr} (h : Mx C σ true b) : False := by cases h.1
theorem Post.bind {p1 p2 : Bool} {r : Res (α × Env)} {k : α × Env → Res (β × Env)} {P : β → Hp → Hp → Env → Prop} (h : Post C N σ (p1 && p2) G H (r.bind k) P) :
    Post C N σ p1 G H r fun a G1 H1 ε1 => Post C N σ p2 G1 H1 (k (a, ε1)) P := by
  cases r with
  | no => exact h
  | er c x => exact fun G1 H1 cls dd g1 e => h G1 H1 cls dd (g1.weak fun b z => ⟨by rw [z.1]; rfl, z.2⟩) e
  | ok q =>
    intro G1 H1 F1 g1
    have h' : Post C N σ (p1 && p2) G H (k q) P := h
    show Post C N σ p2 G1 H1 (k q) P
    have w1 : ∀ b, Mx C σ p1 b → Mx C σ (p1 && p2) b := fun b z => ⟨by rw [z.1]; rfl, z.2⟩
    have w2 : ∀ b, Mx C σ p2 b → Mx C σ (p1 && p2) b := fun b z => ⟨by rw [z.1]; cases p1 <;> rfl, z.2⟩
    cases hk : k q with
    | no => rw [hk] at h'; exact h'
    | er c x =>
      rw [hk] at h'
      intro G2 H2 cls dd g2 e
      exact h' G2 H2 cls dd ((g1.weak w1).trans (g2.weak w2)) e
    | ok q2 =>
      rw [hk] at h'
      intro G2 H2 F2 g2
      exact h' G2 H2 F2 ((g1.weak w1).trans (g2.weak w2))
/-- a step without any effect -/
theorem Post.val {p : Bool} {r : Res α} {k : α → Res (β × Env)} {P : β → Hp → Hp → Env → Prop} (h : Post C N σ p G H (r.bind k) P) (hr : ∀ c x, r ≠ .er c x) : ∃ a, r = .ok a ∧ Post C N σ p G H (k a) P := by
  cases r with
  | no => exact h.elim
  | er c x => exact absurd rfl (hr c x)
  | ok a => exact ⟨a, rfl, h⟩
theorem Post.imp {p : Bool} {r : Res (α × Env)} {P P' : α → Hp → Hp → Env → Prop} (h : Post C N σ p G H r P) (k : ∀ a G' H' ε', Fr C N G' H' ε' σ → Go C.tabs (Mx C σ p) G H G' H' → P a G' H' ε' → P' a G' H' ε') : Post C N σ p G H r P' := by
  cases r with
  | no => exact h
  | er c x => exact h
  | ok q => exact fun G' H' F g => k _ _ _ _ F g (h G' H' F g)
/-- where one stands already -/
theorem Post.here {p : Bool} {a : α} {P : α → Hp → Hp → Env → Prop} (F : Fr C N G H ε σ) (h : Post C N σ p G H (.ok (a, ε)) P) : P a G H ε := h G H F (Go.refl _ _ _ _)
end

section
variable {C : Cn} {X : Cx} {e a b c : Expr} {f g h : Env → Res (D × Env)} {p pa pb pc : Bool} {pos : Pos}
/-- a new container may be frozen -/
theorem tr_frx {σ : L2.St} {H : Hp} {Q : VK} (w : tR C p .esc f σ H Q) : tR C p .frx f σ H Q := by
  obtain ⟨N, G, ε, F, h⟩ := w
  refine ⟨N, G, ε, F, ?_⟩
  cases hf : f ε with
  | no => rw [hf] at h; exact h
  | er c x => rw [hf] at h; exact h
  | ok q =>
    rw [hf] at h
    intro G' H' F' g' v rm
    cases hc : isC q.1 with
    | false => exact h G' H' F' g' v (rm.2 hc)
    | true =>
      obtain ⟨p0, rfl, hn, tm⟩ := rm.1 hc
      obtain ⟨o, ho, ht⟩ := tm.there
      have gn := tm.none
      refine h (upd G' p0 o) H' (F'.freeze ho gn ht (F.go.back hn) fun i _ ci _ z => F.dm i p0 (by rw [ci]; simp) z hn) ⟨g'.ext.trans (Sub.new gn), fun b z => ?_, g'.keep, g'.tbl, g'.tabg, g'.dom⟩ _ (tm.frozen ho gn)
      by_cases hb : b = p0
      · rw [hb]; exact .inr hn
      · rw [upd_ne hb] at z; exact g'.new b z
theorem esc_of_frx (k : PE X e (tR C p .frx f)) : PE X e (tR C p .esc f) := PE.imp k fun σ H Q w => tr_frx w
theorem bor_of_esc (k : PE X e (tR C p .esc f)) : PE X e (tR C p .bor f) := by
  refine PE.imp k fun σ H Q ⟨N, G, ε, F, h⟩ => ⟨N, G, ε, F, h.imp fun d G' H' ε' F' g' q v rm => q v (Rp.top F'.sub rm)⟩

/-! #### names, constants -/
theorem pe_v {i : Nat} {x : Str} (hN : X.N[i]? = some x) (hv : Vis X.env.scope x) (hc : C.cl i = .pl) (hd : (x == ("__debug__" : Str)) = false) (hcd : (x == ("__classdict__" : Str)) = false) :
    PE X (.Name x pos) (tR C true .esc fun ε => (getE ε i).bind fun d => .ok (d, ε)) := by
  refine PE.imp (pe_var hN hv hd hcd) fun σ H Q ⟨N, G, ε, F, h⟩ => ?_
  dsimp only [getE] at h
  split at h
  · rename_i d he
    obtain ⟨v, h1, h2⟩ := F.pl i d hc he
    exact ⟨v, h1, Post.here F h v h2⟩
  · exact h.elim
theorem pe_m {i : Nat} {x : Str} (hN : X.N[i]? = some x) (hv : Vis X.env.scope x) (hc : C.cl i ≠ .pl) (hd : (x == ("__debug__" : Str)) = false) (hcd : (x == ("__classdict__" : Str)) = false) :
    PE X (.Name x pos) (tR C true .bor fun ε => (getE ε i).bind fun d => .ok (d, ε)) := by
  refine PE.imp (pe_var hN hv hd hcd) fun σ H Q ⟨N, G, ε, F, h⟩ => ?_
  dsimp only [getE] at h
  split at h
  · rename_i d he
    cases hk : C.cl i with
    | pl => exact absurd hk hc
    | mu =>
      obtain ⟨a, h1, h2⟩ := F.mu i d hk he
      exact ⟨.ref a, h1, Post.here F h _ h2.top⟩
    | bo =>
      obtain ⟨v, h1, h2⟩ := F.bo i d hk he
      exact ⟨v, h1, Post.here F h v h2⟩
  · exact h.elim
/-- never asked -/
theorem pe_no : PE X e (tR C p .esc fun _ => .no) := ⟨fun _ _ _ _ _ _ ⟨_, _, _, _, h⟩ => h.elim⟩
theorem pe_k {d : D} {v : V} (h : PE X e (tC v)) (hr : ∀ G : Hp, Rp C.K C.fa G d v) : PE X e (tR C true .esc fun ε => .ok (d, ε)) :=
  PE.imp h fun σ H Q ⟨N, G, ε, F, q⟩ => Post.here F q v (hr G)

/-! #### two operands -/
/-- an operation on values, by its rule -/
def OpOk (C : Cn) (m : Mo) (r : R2) (op : D → D → Res D) : Prop := ∀ (N : En) (G H : Hp) (ε : Env) (σ : L2.St) (d e z : D) (x y : V) (Q : VK), Fr C N G H ε σ → Top C.K C.fa G H d x → Top C.K C.fa G H e y → op d e = .ok z →
  (∀ G' H' v, Fr C N G' H' ε σ → Go C.tabs (fun _ => False) G H G' H' → RM C m G' H H' z v → Q v H') → r x y H Q
theorem top_keep {N : En} {σ : L2.St} {G1 H1 G2 H2 : Hp} {ε : Env} {m : Mo} {H : Hp} {d : D} {v : V} (hm : m ≠ .frx) (hk : pb = true ∨ m = .esc) (F2 : Fr C N G2 H2 ε σ) (g2 : Go C.tabs (Mx C σ pb) G1 H1 G2 H2) (r : RM C m G1 H H1 d v) : Top C.K C.fa G2 H2 d v := by
  cases m with
  | frx => exact absurd rfl hm
  | esc => exact Rp.top F2.sub (Rp.mono g2.ext r)
  | bor =>
    rcases hk with hk | hk
    · subst hk
      exact Top.mono g2.ext (fun b o h t => g2.keep b o h (fun z => z.true_) t) r
    · cases hk
theorem RM.back {m : Mo} {N : En} {G H G1 H1 G' H' : Hp} {M : Addr → Prop} {d : D} {v : V} (g : Go C.tabs M G H G1 H1) (r : RM C m G' H1 H' d v) : RM C m G' H H' d v := by
  cases m with
  | esc => exact r
  | bor => exact r
  | frx => exact ⟨fun hc => let ⟨p, e, hn, t⟩ := r.1 hc; ⟨p, e, g.back hn, t⟩, r.2⟩
theorem tr_two {m mo : Mo} {r : R2} {op : D → D → Res D} (hm : m ≠ .frx) (hk : pb = true ∨ m = .esc) (ho : OpOk C mo r op) (hne : ∀ d e c x, op d e ≠ .er c x) {σ : L2.St} {H : Hp} {Q : VK}
    (w : tR C (pa && pb) mo (fun ε => (f ε).bind fun p => (g p.2).bind fun q => (op p.1 q.1).bind fun d => .ok (d, q.2)) σ H Q) : tR C pa m f σ H fun x H1 => tR C pb .bor g σ H1 fun y H2 => r x y H2 Q := by
  obtain ⟨N, G, ε, F, w⟩ := w
  refine ⟨N, G, ε, F, w.bind.imp fun d G1 H1 ε1 F1 g1 w1 v rv => ⟨N, G1, ε1, F1, ?_⟩⟩
  have w1' : Post C N σ (pb && true) G1 H1 ((g ε1).bind fun q => (op d q.1).bind fun z => .ok (z, q.2)) fun d G' H' _ => ∀ v, RM C mo G' H H' d v → Q v H' := by rw [Bool.and_true]; exact w1
  refine w1'.bind.imp fun e G2 H2 ε2 F2 g2 w2 u ru => ?_
  obtain ⟨z, hz, w3⟩ := w2.val (hne d e)
  refine ho N G2 H2 ε2 σ d e z v u Q F2 (top_keep hm hk F2 g2 rv) ru hz fun G' H' v' F' g' r' => w3 G' H' F' (g'.weak fun _ z => z.elim) v' (RM.back (N := N) (g1.weak (M' := fun _ => True) fun _ _ => True.intro) (RM.back (N := N) (g2.weak (M' := fun _ => True) fun _ _ => True.intro) r'))
theorem pe_bin2 {m mo : Mo} {r : R2} {o : Operator} {op : D → D → Res D} (hm : m ≠ .frx) (hk : pb = true ∨ m = .esc) (hr : OpR X (binaryOp o) r) (ho : OpOk C mo r op) (hne : ∀ d e c x, op d e ≠ .er c x) (ha : PE X a (tR C pa m f)) (hb : PE X b (tR C pb .bor g)) :
    PE X (.BinOp a o b pos) (tR C (pa && pb) mo (fun ε => (f ε).bind fun p => (g p.2).bind fun q => (op p.1 q.1).bind fun d => .ok (d, q.2))) :=
  PE.imp (pe_op hr ha hb) fun _ _ _ w => tr_two hm hk ho hne w
theorem pe_cmp2 {m mo : Mo} {r : R2} {o : CmpOp} {op : D → D → Res D} (hm : m ≠ .frx) (hk : pb = true ∨ m = .esc) (hr : OpR X (compareOp o) r) (ho : OpOk C mo r op) (hne : ∀ d e c x, op d e ≠ .er c x) (hb' : behindInMarks o b = false) (ha : PE X a (tR C pa m f)) (hb : PE X b (tR C pb .bor g)) :
    PE X (.Compare a [o] [b] pos) (tR C (pa && pb) mo (fun ε => (f ε).bind fun p => (g p.2).bind fun q => (op p.1 q.1).bind fun d => .ok (d, q.2))) :=
  PE.imp (pe_cmpR hr ha hb hb') fun _ _ _ w => tr_two hm hk ho hne w
/-- a comparison as a test -/
theorem pt_cmp2 {m : Mo} {r : R2} {o : CmpOp} {op : D → D → Res D} (hm : m ≠ .frx) (hk : pb = true ∨ m = .esc) (hr : OpR X (compareOp o) r) (ho : OpOk C .esc r op) (hne : ∀ d e c x, op d e ≠ .er c x) (hbl : ∀ d e z, op d e = .ok z → ∃ t, z = .bl t) (hb' : behindInMarks o b = false) (ha : PE X a (tR C pa m f)) (hb : PE X b (tR C pb .bor g)) :
    PT X (.Compare a [o] [b] pos) (tT C (pa && pb) (fun ε => (f ε).bind fun p => (g p.2).bind fun q => (op p.1 q.1).bind fun d => .ok (d, q.2))) := by
  refine PT.imp (pt_cmpR hr ha hb hb') fun σ H Q ⟨N, G, ε, F, w⟩ => ?_
  refine tr_two (op := op) hm hk ho hne (σ := σ) (H := H) (Q := fun x H' => ∃ k, x = .bl k ∧ Q k H') ⟨N, G, ε, F, ?_⟩
  dsimp only at w ⊢
  revert w
  cases f ε with
  | no => exact fun w => w
  | er c x => exact fun w => w
  | ok q1 =>
    simp only [Res.bind_ok]
    cases g q1.2 with
    | no => exact fun w => w
    | er c x => exact fun w => w
    | ok q2 =>
      simp only [Res.bind_ok]
      cases hz : op q1.1 q2.1 with
      | no => exact fun w => w
      | er c x => exact absurd hz (hne _ _ _ _)
      | ok z =>
        obtain ⟨t, rfl⟩ := hbl _ _ _ hz
        exact fun w G' H' F' g' v rv => ⟨t, rv, w G' H' F' g'⟩
/-- one operand -/
theorem pe_un1 {mo m : Mo} {o : UnaryOp} {r : V → Hp → VK → Prop} {op : D → Res D} (hm : m ≠ .frx) (hr : UnR X (unaryOp o) r)
    (ho : ∀ (N : En) (G H : Hp) (ε : Env) (σ : L2.St) (d z : D) (x : V) (Q : VK), Fr C N G H ε σ → Top C.K C.fa G H d x → op d = .ok z → (∀ G' H' v, Fr C N G' H' ε σ → Go C.tabs (fun _ => False) G H G' H' → RM C mo G' H H' z v → Q v H') → r x H Q)
    (hne : ∀ d c x, op d ≠ .er c x) (ha : PE X a (tR C p m f)) : PE X (.UnaryOp o a pos) (tR C p mo (fun ε => (f ε).bind fun p => (op p.1).bind fun d => .ok (d, p.2))) := by
  refine PE.imp (pe_un hr ha) fun σ H Q ⟨N, G, ε, F, w⟩ => ⟨N, G, ε, F, ?_⟩
  have w' : Post C N σ (p && true) G H ((f ε).bind fun p => (op p.1).bind fun d => .ok (d, p.2)) fun d G' H' _ => ∀ v, RM C mo G' H H' d v → Q v H' := by rw [Bool.and_true]; exact w
  refine w'.bind.imp fun d G1 H1 ε1 F1 g1 w1 v rv => ?_
  obtain ⟨z, hz, w2⟩ := w1.val (hne d)
  exact ho N G1 H1 ε1 σ d z v Q F1 (top_keep hm (.inl rfl) F1 (Go.refl _ (Mx C σ true) _ _) rv) hz fun G' H' v' F' g' r' => w2 G' H' F' (g'.weak fun _ z => z.elim) v' (RM.back (N := N) (g1.weak (M' := fun _ => True) fun _ _ => True.intro) r')

/-! #### truth -/
theorem truth_ne : ∀ (d : D) c x, truth d ≠ .er c x := by
  intro d c x
  cases d <;> simp [truth]
theorem RpL.empty {K : PySem.W.Frag} {fa : Nat → Option Addr} {G : Hp} : ∀ {ds : List D} {vs : List V}, RpL K fa G ds vs → ds.isEmpty = vs.isEmpty
  | [], vs, h => by
    have h' : vs = [] := h
    rw [h'] <;> rfl
  | _ :: _, _, ⟨v, r, e, _⟩ => by rw [e]; rfl
theorem truth_V {K : PySem.W.Frag} {fa : Nat → Option Addr} {G H : Hp} (sub : Sub G H) {d : D} {v : V} {t : Bool} (r : Top K fa G H d v) (h : truth d = .ok t) : TruV K v H t := by
  cases d with
  | non => obtain rfl : v = .non := r; cases h; exact rfl
  | bl b => obtain rfl : v = .bl b := r; cases h; exact rfl
  | int i => obtain rfl : v = .int i := r; cases h; exact rfl
  | tup ds =>
    obtain ⟨a, xs, rfl, h1, h2⟩ := r
    cases h
    exact .inr (.inl ⟨xs, (h1.mono sub).sq, by rw [h2.empty]⟩)
  | lst ds =>
    obtain ⟨a, xs, rfl, h1, h2⟩ := r
    cases h
    exact .inl ⟨xs, SqL.of h1, by rw [h2.empty]⟩
  | rol ds =>
    obtain ⟨a, xs, rfl, h1, h2⟩ := r
    cases h
    exact .inl ⟨xs, sub.l h1, by rw [h2.empty]⟩
  | str x => cases h
  | dct x => cases h
  | dtt x => cases h
  | fn x => cases h
  | obj x y => cases h
theorem pt_of {m : Mo} (hm : m ≠ .frx) (ha : PE X a (tR C p m f)) (he : ∀ whole, isTrue a X.env whole = (do let v ← whole; standAt a.pos; holding [v] (truthy v))) (hK : X.K = C.K) : PT X a (tT C p f) := by
  refine PT.imp (pt_truth ha he) fun σ H Q ⟨N, G, ε, F, w⟩ => ⟨N, G, ε, F, ?_⟩
  have w' : Post C N σ (p && true) G H ((f ε).bind fun q => (truth q.1).bind fun t => .ok (t, q.2)) fun b _ H' _ => Q b H' := by rw [Bool.and_true]; exact w
  refine w'.bind.imp fun d G1 H1 ε1 F1 g1 w1 v rv => ?_
  obtain ⟨t, ht, w2⟩ := w1.val (truth_ne d)
  refine ⟨t, ?_, w2.here F1⟩
  rw [hK]
  exact truth_V F1.sub (top_keep hm (.inl rfl) F1 (Go.refl _ (Mx C σ true) _ _) rv) ht
/-- not -/
theorem pt_nt (ha : PT X a (tT C p f)) : PT X (.UnaryOp .Not a pos) (tT C p fun ε => (f ε).bind fun p => (uop .not p.1).bind fun d => .ok (d, p.2)) := by
  refine PT.imp (pt_not ha) fun σ H Q ⟨N, G, ε, F, w⟩ => ⟨N, G, ε, F, ?_⟩
  dsimp only at w ⊢
  revert w
  cases f ε with
  | no => exact fun w => w
  | er c x => exact fun w => w
  | ok q =>
    simp only [Res.bind_ok, uop]
    cases truth q.1 with
    | no => exact fun w => w
    | er c x => exact fun w => w
    | ok t => exact fun w => w
theorem pe_nt {m : Mo} (hm : m ≠ .frx) (hK : X.K = C.K) (ha : PE X a (tR C p m f)) : PE X (.UnaryOp .Not a pos) (tR C p .esc fun ε => (f ε).bind fun p => (uop .not p.1).bind fun d => .ok (d, p.2)) := by
  refine PE.imp (pe_notT ha) fun σ H Q ⟨N, G, ε, F, w⟩ => ⟨N, G, ε, F, ?_⟩
  have w' : Post C N σ (p && true) G H ((f ε).bind fun p => (uop .not p.1).bind fun d => .ok (d, p.2)) fun d G' H' _ => ∀ v, RM C .esc G' H H' d v → Q v H' := by rw [Bool.and_true]; exact w
  refine w'.bind.imp fun d G1 H1 ε1 F1 g1 w1 v rv => ?_
  have w1' : Post C N σ true G1 H1 ((truth d).bind fun b => .ok (.bl !b, ε1)) fun d G' H' _ => ∀ v, RM C .esc G' H H' d v → Q v H' := by
    revert w1
    simp only [uop]
    cases truth d <;> exact fun w => w
  obtain ⟨t, ht, w2⟩ := w1'.val (truth_ne d)
  refine ⟨t, ?_, w2.here F1 _ rfl⟩
  rw [hK]
  exact truth_V F1.sub (top_keep hm (.inl rfl) F1 (Go.refl _ (Mx C σ true) _ _) rv) ht

/-! #### and, or, if -/
def andF (f g : Env → Res (D × Env)) : Env → Res (D × Env) := fun ε => (f ε).bind fun p => (truth p.1).bind fun t => if t = true then g p.2 else .ok p
def orF (f g : Env → Res (D × Env)) : Env → Res (D × Env) := fun ε => (f ε).bind fun p => (truth p.1).bind fun t => if t = true then .ok p else g p.2
theorem pe_and2 {rest : List Expr} {m : Mo} (hm : m ≠ .frx) (hK : X.K = C.K) (ha : PE X a (tR C pa m f)) (hb : PE X (.BoolOp .And (b :: rest) pos) (tR C pb m g)) : PE X (.BoolOp .And (a :: b :: rest) pos) (tR C (pa && pb) m (andF f g)) := by
  refine PE.imp (pe_andT ha hb) fun σ H Q ⟨N, G, ε, F, w⟩ => ⟨N, G, ε, F, ?_⟩
  refine w.bind.imp fun d G1 H1 ε1 F1 g1 w1 v rv => ?_
  obtain ⟨t, ht, w2⟩ := w1.val (truth_ne d)
  refine ⟨t, ?_, ?_⟩
  · rw [hK]
    exact truth_V F1.sub (top_keep hm (.inl rfl) F1 (Go.refl _ (Mx C σ true) _ _) rv) ht
  · cases t with
    | true => exact ⟨N, G1, ε1, F1, w2.imp fun d2 G2 H2 ε2 F2 g2 q v2 r2 => q v2 (RM.back (N := N) (g1.weak (M' := fun _ => True) fun _ _ => True.intro) r2)⟩
    | false => exact Post.here F1 w2 v rv
theorem pe_or2 {rest : List Expr} {m : Mo} (hm : m ≠ .frx) (hK : X.K = C.K) (ha : PE X a (tR C pa m f)) (hb : PE X (.BoolOp .Or (b :: rest) pos) (tR C pb m g)) : PE X (.BoolOp .Or (a :: b :: rest) pos) (tR C (pa && pb) m (orF f g)) := by
  refine PE.imp (pe_orT ha hb) fun σ H Q ⟨N, G, ε, F, w⟩ => ⟨N, G, ε, F, ?_⟩
  refine w.bind.imp fun d G1 H1 ε1 F1 g1 w1 v rv => ?_
  obtain ⟨t, ht, w2⟩ := w1.val (truth_ne d)
  refine ⟨t, ?_, ?_⟩
  · rw [hK]
    exact truth_V F1.sub (top_keep hm (.inl rfl) F1 (Go.refl _ (Mx C σ true) _ _) rv) ht
  · cases t with
    | false => exact ⟨N, G1, ε1, F1, w2.imp fun d2 G2 H2 ε2 F2 g2 q v2 r2 => q v2 (RM.back (N := N) (g1.weak (M' := fun _ => True) fun _ _ => True.intro) r2)⟩
    | true => exact Post.here F1 w2 v rv
theorem and_assoc_true (p : Bool) : (p && true) = p := Bool.and_true p
theorem pw_and2 {rest : List Expr} (ha : PT X a (tT C pa f)) (hb : PW X (.BoolOp .And (b :: rest) pos) (tT C pb g)) : PW X (.BoolOp .And (a :: b :: rest) pos) (tT C (pa && pb) (andF f g)) := by
  refine PW.imp (pw_and ha hb) fun σ H Q ⟨N, G, ε, F, w⟩ => ⟨N, G, ε, F, ?_⟩
  have w' : Post C N σ (pa && pb) G H (((f ε).bind fun q => (truth q.1).bind fun t => .ok (t, q.2)).bind fun q => if q.1 = true then (g q.2).bind fun r => (truth r.1).bind fun t => .ok (t, r.2) else .ok (false, q.2)) fun b _ H' _ => Q b H' := by
    revert w
    unfold andF
    cases f ε with
    | no => exact fun w => w
    | er c x => exact fun w => w
    | ok q =>
      simp only [Res.bind_ok]
      cases ht : truth q.1 with
      | no => exact fun w => w
      | er c x => exact fun w => w
      | ok t =>
        cases t with
        | true => exact fun w => w
        | false =>
          simp only [Res.bind_ok, Bool.false_eq_true, if_false, ht]
          exact fun w => w
  refine w'.bind.imp fun t G1 H1 ε1 F1 g1 w1 => ?_
  cases t with
  | true => exact ⟨N, G1, ε1, F1, w1⟩
  | false => exact Post.here F1 w1
theorem pw_or2 {rest : List Expr} (ha : PT X a (tT C pa f)) (hb : PW X (.BoolOp .Or (b :: rest) pos) (tT C pb g)) : PW X (.BoolOp .Or (a :: b :: rest) pos) (tT C (pa && pb) (orF f g)) := by
  refine PW.imp (pw_or ha hb) fun σ H Q ⟨N, G, ε, F, w⟩ => ⟨N, G, ε, F, ?_⟩
  have w' : Post C N σ (pa && pb) G H (((f ε).bind fun q => (truth q.1).bind fun t => .ok (t, q.2)).bind fun q => if q.1 = true then .ok (true, q.2) else (g q.2).bind fun r => (truth r.1).bind fun t => .ok (t, r.2)) fun b _ H' _ => Q b H' := by
    revert w
    unfold orF
    cases f ε with
    | no => exact fun w => w
    | er c x => exact fun w => w
    | ok q =>
      simp only [Res.bind_ok]
      cases ht : truth q.1 with
      | no => exact fun w => w
      | er c x => exact fun w => w
      | ok t =>
        cases t with
        | false => exact fun w => w
        | true =>
          simp only [Res.bind_ok, if_true, ht]
          exact fun w => w
  refine w'.bind.imp fun t G1 H1 ε1 F1 g1 w1 => ?_
  cases t with
  | false => exact ⟨N, G1, ε1, F1, w1⟩
  | true => exact Post.here F1 w1
theorem pe_ife {m : Mo} (hc : PT X c (tT C pc h)) (ha : PE X a (tR C pa m f)) (hb : PE X b (tR C pb m g)) :
    PE X (.IfExp c a b pos) (tR C (pc && (pa && pb)) m fun ε => (h ε).bind fun p => (truth p.1).bind fun t => if t = true then f p.2 else g p.2) := by
  refine PE.imp (pe_ifExp hc ha hb) fun σ H Q ⟨N, G, ε, F, w⟩ => ⟨N, G, ε, F, ?_⟩
  have w' : Post C N σ (pc && (pa && pb)) G H (((h ε).bind fun q => (truth q.1).bind fun t => .ok (t, q.2)).bind fun q => if q.1 = true then f q.2 else g q.2) fun d G' H' _ => ∀ v, RM C m G' H H' d v → Q v H' := by
    dsimp only at w
    revert w
    cases h ε with
    | no => exact fun w => w
    | er c x => exact fun w => w
    | ok q =>
      simp only [Res.bind_ok]
      cases truth q.1 <;> exact fun w => w
  refine w'.bind.imp fun t G1 H1 ε1 F1 g1 w1 => ?_
  have wk : ∀ (q : Bool), (q = false → (pa && pb) = false) → ∀ b, Mx C σ q b → Mx C σ (pa && pb) b := fun q hq b z => ⟨hq z.1, z.2⟩
  have cut : ∀ (q : Bool) (r : Res (D × Env)), (q = false → (pa && pb) = false) → Post C N σ (pa && pb) G1 H1 r (fun d G' H' _ => ∀ v, RM C m G' H H' d v → Q v H') → Post C N σ q G1 H1 r fun d G' H' _ => ∀ v, RM C m G' H1 H' d v → Q v H' := fun q r hq z => by
    cases r with
    | no => exact z
    | er c x => exact fun G' H' cls dd g' e => z G' H' cls dd (g'.weak (wk q hq)) e
    | ok y => exact fun G' H' F' g' v rv => z G' H' F' (g'.weak (wk q hq)) v (RM.back (N := N) (g1.weak (M' := fun _ => True) fun _ _ => True.intro) rv)
  cases t with
  | true => exact ⟨N, G1, ε1, F1, cut pa _ (fun z => by rw [z]; rfl) w1⟩
  | false => exact ⟨N, G1, ε1, F1, cut pb _ (fun z => by rw [z]; cases pa <;> rfl) w1⟩
end
end Ev
/-! ### operations on data, by the rules of the values -/
namespace Ev
open PySem PySem.Spec PyProof.Rows L2

section
variable {K : PySem.W.Frag} {fa : Nat → Option Addr} {G : Hp}
theorem RpL.len : ∀ {ds : List D} {vs : List V}, RpL K fa G ds vs → ds.length = vs.length
  | [], vs, h => by rw [show vs = [] from h] <;> rfl
  | _ :: _, _, ⟨v, r, e, _, h⟩ => by rw [e, List.length_cons, List.length_cons, RpL.len h]
theorem RpL.append : ∀ {ds es : List D} {vs us : List V}, RpL K fa G ds vs → RpL K fa G es us → RpL K fa G (ds ++ es) (vs ++ us)
  | [], _, vs, _, h, k => by rw [show vs = [] from h]; exact k
  | _ :: _, _, _, _, ⟨v, r, e, h1, h⟩, k => by rw [e]; exact ⟨v, _, rfl, h1, RpL.append h k⟩
theorem RpL.take : ∀ {ds : List D} {vs : List V} (n : Nat), RpL K fa G ds vs → RpL K fa G (ds.take n) (vs.take n)
  | [], vs, n, h => by rw [show vs = [] from h]; cases n <;> exact rfl
  | _ :: _, vs, 0, h => rfl
  | _ :: _, _, n + 1, ⟨v, r, e, h1, h⟩ => by rw [e]; exact ⟨v, _, rfl, h1, RpL.take n h⟩
theorem RpL.drop : ∀ {ds : List D} {vs : List V} (n : Nat), RpL K fa G ds vs → RpL K fa G (ds.drop n) (vs.drop n)
  | [], vs, n, h => by rw [show vs = [] from h]; cases n <;> exact rfl
  | _ :: _, vs, 0, h => h
  | _ :: _, _, n + 1, ⟨v, r, e, h1, h⟩ => by rw [e]; exact RpL.drop n h
theorem RpL.get : ∀ {ds : List D} {vs : List V} {i : Nat} {d : D}, RpL K fa G ds vs → ds[i]? = some d → ∃ v, vs[i]? = some v ∧ Rp K fa G d v
  | [], _, _, _, _, e => by simp at e
  | _ :: _, _, 0, _, ⟨v, r, e, h1, h⟩, q => by
    rw [List.getElem?_cons_zero] at q
    cases q
    exact ⟨v, by rw [e]; rfl, h1⟩
  | _ :: _, _, i + 1, d, ⟨v, r, e, h1, h⟩, q => by
    rw [List.getElem?_cons_succ] at q
    obtain ⟨u, k1, k2⟩ := RpL.get h q
    exact ⟨u, by rw [e, List.getElem?_cons_succ]; exact k1, k2⟩
theorem RpL.set : ∀ {ds : List D} {vs : List V} (i : Nat) {d : D} {v : V}, RpL K fa G ds vs → Rp K fa G d v → RpL K fa G (ds.set i d) (vs.set i v)
  | [], vs, _, _, _, h, _ => by rw [show vs = [] from h]; exact rfl
  | _ :: _, _, 0, _, _, ⟨v, r, e, h1, h⟩, q => by rw [e]; exact ⟨_, r, rfl, q, h⟩
  | _ :: _, _, i + 1, _, _, ⟨v, r, e, h1, h⟩, q => by rw [e]; exact ⟨v, _, rfl, h1, RpL.set i h q⟩
theorem RpL.snoc {ds : List D} {vs : List V} {d : D} {v : V} (h : RpL K fa G ds vs) (q : Rp K fa G d v) : RpL K fa G (ds ++ [d]) (vs ++ [v]) := h.append ⟨v, [], rfl, q, rfl⟩
theorem RpL.rev : ∀ {ds : List D} {vs : List V}, RpL K fa G ds vs → RpL K fa G ds.reverse vs.reverse
  | [], vs, h => by rw [show vs = [] from h]; exact rfl
  | _ :: _, _, ⟨v, r, e, h1, h⟩ => by rw [e, List.reverse_cons, List.reverse_cons]; exact (RpL.rev h).snoc h1
theorem RpL.rep {ds : List D} {vs : List V} (h : RpL K fa G ds vs) : ∀ k : Nat, RpL K fa G (List.replicate k ds).flatten (List.replicate k vs).flatten
  | 0 => rfl
  | k + 1 => by
    rw [List.replicate_succ, List.replicate_succ, List.flatten_cons, List.flatten_cons]
    exact h.append (RpL.rep h k)
theorem RpL.int : ∀ {ns : List Int} {vs : List V}, RpL K fa G (ns.map D.int) vs → vs = ns.map V.int
  | [], vs, h => h
  | n :: r, _, ⟨v, u, e, h1, h⟩ => by rw [e, show v = V.int n from h1, RpL.int h]; rfl
theorem RpL.ofInt : ∀ (ns : List Int), RpL K fa G (ns.map D.int) (ns.map V.int)
  | [] => rfl
  | n :: r => ⟨_, _, rfl, rfl, RpL.ofInt r⟩
theorem lim_size {n : Nat} (h : n ≤ LIM) : n ≤ sizeLine := Nat.le_trans h (by decide)
theorem lim_lt {n : Nat} (h : n < LIM) : n < sizeLine := Nat.lt_of_lt_of_le h (by decide)

end

/-! #### the data that == reads -/
mutual
def py : D → PyData
  | .non => .none
  | .bl b => .bool b
  | .int i => .int i
  | .str x => .str x
  | .tup ds => .tuple (pyL ds)
  | .lst ds => .list (pyL ds)
  | _ => .none
def pyL : List D → List PyData
  | [] => []
  | d :: ds => py d :: pyL ds
end
mutual
theorem dep_py : ∀ d : D, flat d = true → (py d).depth = dep d
  | .non, _ => rfl
  | .bl _, _ => rfl
  | .int _, _ => rfl
  | .str _, _ => rfl
  | .tup ds, h => by
    have h' : flatL ds = true := h
    show PyData.depthAll (pyL ds) + 1 = depL ds + 1
    rw [depL_py ds h']
  | .lst ds, h => by
    have h' : flatL ds = true := h
    show PyData.depthAll (pyL ds) + 1 = depL ds + 1
    rw [depL_py ds h']
  | .rol _, h => by cases h
  | .dct _, h => by cases h
  | .dtt _, h => by cases h
  | .fn _, h => by cases h
  | .obj _ _, h => by cases h
theorem depL_py : ∀ ds : List D, flatL ds = true → PyData.depthAll (pyL ds) = depL ds
  | [], _ => rfl
  | d :: ds, h => by
    have h' : (flat d && flatL ds) = true := h
    rw [Bool.and_eq_true] at h'
    show max (py d).depth (PyData.depthAll (pyL ds)) = max (dep d) (depL ds)
    rw [dep_py d h'.1, depL_py ds h'.2]
end
mutual
theorem eqv_py : ∀ d e : D, flat d = true → flat e = true → PyData.eqv (py d) (py e) = eqv d e
  | .non, e, _, h => by cases e <;> first | rfl | cases h
  | .bl _, e, _, h => by cases e <;> first | rfl | cases h
  | .int _, e, _, h => by cases e <;> first | rfl | cases h
  | .str _, e, _, h => by cases e <;> first | rfl | cases h
  | .tup ds, .tup es, h, k => eqvL_py ds es h k
  | .lst ds, .lst es, h, k => eqvL_py ds es h k
  | .tup ds, .non, _, _ => rfl
  | .tup ds, .bl _, _, _ => rfl
  | .tup ds, .int _, _, _ => rfl
  | .tup ds, .str _, _, _ => rfl
  | .tup ds, .lst _, _, _ => rfl
  | .lst ds, .non, _, _ => rfl
  | .lst ds, .bl _, _, _ => rfl
  | .lst ds, .int _, _, _ => rfl
  | .lst ds, .str _, _, _ => rfl
  | .lst ds, .tup _, _, _ => rfl
  | .tup ds, .rol _, _, h => by cases h
  | .tup ds, .dct _, _, h => by cases h
  | .tup ds, .dtt _, _, h => by cases h
  | .tup ds, .fn _, _, h => by cases h
  | .tup ds, .obj _ _, _, h => by cases h
  | .lst ds, .rol _, _, h => by cases h
  | .lst ds, .dct _, _, h => by cases h
  | .lst ds, .dtt _, _, h => by cases h
  | .lst ds, .fn _, _, h => by cases h
  | .lst ds, .obj _ _, _, h => by cases h
  | .rol _, _, h, _ => by cases h
  | .dct _, _, h, _ => by cases h
  | .dtt _, _, h, _ => by cases h
  | .fn _, _, h, _ => by cases h
  | .obj _ _, _, h, _ => by cases h
theorem eqvL_py : ∀ ds es : List D, flatL ds = true → flatL es = true → PyData.eqvAll (pyL ds) (pyL es) = eqvL ds es
  | [], [], _, _ => rfl
  | [], _ :: _, _, _ => rfl
  | _ :: _, [], _, _ => rfl
  | d :: ds, e :: es, h, k => by
    have h' : (flat d && flatL ds) = true := h
    have k' : (flat e && flatL es) = true := k
    rw [Bool.and_eq_true] at h' k'
    show (PyData.eqv (py d) (py e) && PyData.eqvAll (pyL ds) (pyL es)) = (eqv d e && eqvL ds es)
    rw [eqv_py d e h'.1 k'.1, eqvL_py ds es h'.2 k'.2]
end
section
variable {K : PySem.W.Frag} {fa : Nat → Option Addr} {G H : Hp}
mutual
theorem Rp.dp : ∀ {d : D} {v : V}, flat d = true → Rp K fa G d v → Dp K G v (py d) ∧ (py d).canLay0 = true
  | .non, v, _, h => by obtain rfl : v = .non := h; exact ⟨.non, rfl⟩
  | .bl b, v, _, h => by obtain rfl : v = .bl b := h; exact ⟨.bl b, rfl⟩
  | .int i, v, _, h => by obtain rfl : v = .int i := h; exact ⟨.int i, rfl⟩
  | .str x, v, _, ⟨e, h⟩ => by subst e; exact ⟨.str x, h⟩
  | .tup ds, _, hf, ⟨a, xs, e, h1, h2⟩ => by
    have hf' : flatL ds = true := hf
    obtain ⟨k1, k2⟩ := RpL.dp hf' h2
    rw [e]
    exact ⟨.tup h1.sq k1, k2⟩
  | .lst ds, _, hf, ⟨a, xs, e, h1, h2⟩ => by
    have hf' : flatL ds = true := hf
    obtain ⟨k1, k2⟩ := RpL.dp hf' h2
    rw [e]
    exact ⟨.lst (SqL.of h1) k1, k2⟩
  | .rol _, _, h, _ => by cases h
  | .dct _, _, h, _ => by cases h
  | .dtt _, _, h, _ => by cases h
  | .fn _, _, h, _ => by cases h
  | .obj _ _, _, h, _ => by cases h
theorem RpL.dp : ∀ {ds : List D} {vs : List V}, flatL ds = true → RpL K fa G ds vs → DpAll K G vs (pyL ds) ∧ PyData.canLayAll0 (pyL ds) = true
  | [], vs, _, h => by rw [show vs = [] from h]; exact ⟨.nil, rfl⟩
  | d :: ds, _, hf, ⟨v, r, e, h1, h2⟩ => by
    have h' : (flat d && flatL ds) = true := hf
    rw [Bool.and_eq_true] at h'
    obtain ⟨k1, k2⟩ := Rp.dp h'.1 h1
    obtain ⟨m1, m2⟩ := RpL.dp h'.2 h2
    rw [e]
    exact ⟨.cons k1 m1, by show ((py d).canLay0 && PyData.canLayAll0 (pyL ds)) = true; rw [k2, m2]; rfl⟩
end
mutual
theorem Dp.sub (e : Sub G H) : ∀ {v : V} {q : PyData}, Dp K G v q → Dp K H v q
  | _, _, .non => .non
  | _, _, .bl b => .bl b
  | _, _, .int i => .int i
  | _, _, .str x => .str x
  | _, _, .lst h k => .lst (e.l h) (DpAll.sub e k)
  | _, _, .tup h k => .tup (e.t h) (DpAll.sub e k)
theorem DpAll.sub (e : Sub G H) : ∀ {v : List V} {q : List PyData}, DpAll K G v q → DpAll K H v q
  | _, _, .nil => .nil
  | _, _, .cons h k => .cons (Dp.sub e h) (DpAll.sub e k)
end
theorem Top.dp (sub : Sub G H) {d : D} {v : V} (hf : flat d = true) (h : Top K fa G H d v) : Dp K H v (py d) ∧ (py d).canLay0 = true := by
  cases d with
  | lst ds =>
    obtain ⟨a, xs, rfl, h1, h2⟩ := h
    obtain ⟨k1, k2⟩ := RpL.dp hf h2
    exact ⟨.lst (SqL.of h1) (DpAll.sub sub k1), k2⟩
  | non => obtain ⟨k1, k2⟩ := Rp.dp (K := K) (fa := fa) (G := G) (d := .non) hf h; exact ⟨Dp.sub sub k1, k2⟩
  | bl b => obtain ⟨k1, k2⟩ := Rp.dp (K := K) (fa := fa) (G := G) (d := .bl b) hf h; exact ⟨Dp.sub sub k1, k2⟩
  | int b => obtain ⟨k1, k2⟩ := Rp.dp (K := K) (fa := fa) (G := G) (d := .int b) hf h; exact ⟨Dp.sub sub k1, k2⟩
  | str b => obtain ⟨k1, k2⟩ := Rp.dp (K := K) (fa := fa) (G := G) (d := .str b) hf h; exact ⟨Dp.sub sub k1, k2⟩
  | tup b => obtain ⟨k1, k2⟩ := Rp.dp (K := K) (fa := fa) (G := G) (d := .tup b) hf h; exact ⟨Dp.sub sub k1, k2⟩
  | rol b => cases hf
  | dct b => cases hf
  | dtt b => cases hf
  | fn b => cases hf
  | obj b c => cases hf
end

/-! #### operators -/
/-- deep ==, through what is read -/
def rEqA (K : PySem.W.Frag) : R2 := fun x y H Q => ∃ d e, Dp K H x d ∧ Dp K H y e ∧ d.canLay0 = true ∧ e.canLay0 = true ∧ min d.depth e.depth ≤ 64 ∧ Q (.bl (PyData.eqv d e)) H
def rNeA (K : PySem.W.Frag) : R2 := fun x y H Q => ∃ d e, Dp K H x d ∧ Dp K H y e ∧ d.canLay0 = true ∧ e.canLay0 = true ∧ min d.depth e.depth ≤ 64 ∧ Q (.bl (!PyData.eqv d e)) H
section
variable {X : Cx} {C : Cn}
theorem op_eqA (hu : X.A.units + 64 < cLine) : OpR X (compareOp .Eq) (rEqA X.K) := by
  intro pins s σ H x y v u Q I rx ry h
  obtain ⟨d, e, h1, h2, c1, c2, hd, q⟩ := h
  obtain ⟨as, r1⟩ := Dp.reads I d x v h1 rx
  obtain ⟨bs, r2⟩ := Dp.reads I e y u h2 ry
  exact SeqAt.compareEq_reads r1 r2 c1 c2 (by omega) ⟨.bl _, H, I, rfl, q⟩
theorem op_neA (hu : X.A.units + 64 < cLine) : OpR X (compareOp .NotEq) (rNeA X.K) := by
  intro pins s σ H x y v u Q I rx ry h
  obtain ⟨d, e, h1, h2, c1, c2, hd, q⟩ := h
  obtain ⟨as, r1⟩ := Dp.reads I d x v h1 rx
  obtain ⟨bs, r2⟩ := Dp.reads I e y u h2 ry
  exact SeqAt.compareNe_reads r1 r2 c1 c2 (by omega) ⟨.bl _, H, I, rfl, q⟩
theorem okE_of {d : D} (h : okE d = true) : flat d = true ∧ dep d ≤ 64 := by
  unfold okE at h
  simp only [Bool.and_eq_true, decide_eq_true_eq] at h
  exact h
theorem ok_eq : OpOk C .esc (rEqA C.K) (cop .eq) := by
  intro N G H ε σ d e z x y Q F hx hy h q
  simp only [cop] at h
  split at h
  · rename_i hc
    rw [Bool.and_eq_true] at hc
    cases h
    obtain ⟨f1, p1⟩ := okE_of hc.1
    obtain ⟨f2, p2⟩ := okE_of hc.2
    obtain ⟨k1, l1⟩ := Top.dp F.sub f1 hx
    obtain ⟨k2, l2⟩ := Top.dp F.sub f2 hy
    refine ⟨py d, py e, k1, k2, l1, l2, by rw [dep_py d f1, dep_py e f2]; omega, ?_⟩
    rw [eqv_py d e f1 f2]
    exact q G H _ F (Go.refl _ _ _ _) rfl
  · cases h
theorem ok_ne : OpOk C .esc (rNeA C.K) (cop .ne) := by
  intro N G H ε σ d e z x y Q F hx hy h q
  simp only [cop] at h
  split at h
  · rename_i hc
    rw [Bool.and_eq_true] at hc
    cases h
    obtain ⟨f1, p1⟩ := okE_of hc.1
    obtain ⟨f2, p2⟩ := okE_of hc.2
    obtain ⟨k1, l1⟩ := Top.dp F.sub f1 hx
    obtain ⟨k2, l2⟩ := Top.dp F.sub f2 hy
    refine ⟨py d, py e, k1, k2, l1, l2, by rw [dep_py d f1, dep_py e f2]; omega, ?_⟩
    rw [eqv_py d e f1 f2]
    exact q G H _ F (Go.refl _ _ _ _) rfl
  · cases h
/-- two ints -/
theorem ok_I {m : Mo} {g : Int → Int → Int} {op : D → D → Res D} (h1 : ∀ i j, op (.int i) (.int j) = .ok (.int (g i j))) (h2 : ∀ d e z, op d e = .ok z → ∃ i j, d = .int i ∧ e = .int j) : OpOk C m (rI0 fun i j => .int (g i j)) op := by
  intro N G H ε σ d e z x y Q F hx hy h q
  obtain ⟨i, j, rfl, rfl⟩ := h2 _ _ _ h
  obtain rfl : x = .int i := hx
  obtain rfl : y = .int j := hy
  rw [h1] at h
  cases h
  exact ⟨i, j, rfl, rfl, q G H _ F (Go.refl _ _ _ _) (by cases m; exact rfl; exact rfl; exact ⟨fun z => (by cases z), fun _ => rfl⟩)⟩
theorem ok_B {g : Int → Int → Bool} {op : D → D → Res D} (h1 : ∀ i j, op (.int i) (.int j) = .ok (.bl (g i j))) (h2 : ∀ d e z, op d e = .ok z → ∃ i j, d = .int i ∧ e = .int j) : OpOk C .esc (rI0 fun i j => .bl (g i j)) op := by
  intro N G H ε σ d e z x y Q F hx hy h q
  obtain ⟨i, j, rfl, rfl⟩ := h2 _ _ _ h
  obtain rfl : x = .int i := hx
  obtain rfl : y = .int j := hy
  rw [h1] at h
  cases h
  exact ⟨i, j, rfl, rfl, q G H _ F (Go.refl _ _ _ _) rfl⟩
theorem ok_lt : OpOk C .esc (rI0 fun i j => .bl (decide (i < j))) (cop .lt) := ok_B (fun _ _ => rfl) fun d e z h => by cases d <;> cases e <;> simp [cop] at h ⊢
theorem ok_le : OpOk C .esc (rI0 fun i j => .bl (decide (i ≤ j))) (cop .le) := ok_B (fun _ _ => rfl) fun d e z h => by cases d <;> cases e <;> simp [cop] at h ⊢
theorem ok_gt : OpOk C .esc (rI0 fun i j => .bl (decide (j < i))) (cop .gt) := ok_B (fun _ _ => rfl) fun d e z h => by cases d <;> cases e <;> simp [cop] at h ⊢
theorem ok_ge : OpOk C .esc (rI0 fun i j => .bl (decide (j ≤ i))) (cop .ge) := ok_B (fun _ _ => rfl) fun d e z h => by cases d <;> cases e <;> simp [cop] at h ⊢
theorem ok_sub : OpOk C .frx (rI0 fun i j => .int (i - j)) (bop .sub) := ok_I (fun _ _ => rfl) fun d e z h => by cases d <;> cases e <;> simp [bop] at h ⊢
/-- a value's result -/
theorem RM.sc {m : Mo} {G' H H' : Hp} {d : D} {v : V} (h : ∀ G : Hp, Rp C.K C.fa G d v) (hc : isC d = false) (ht : Top C.K C.fa G' H' d v) : RM C m G' H H' d v := by
  cases m with
  | esc => exact h _
  | bor => exact ht
  | frx => exact ⟨fun z => (by rw [hc] at z; cases z), fun _ => h _⟩
theorem ok_ret {m : Mo} {N : En} {G H : Hp} {ε : Env} {σ : L2.St} {z : D} {v : V} {Q : VK} (F : Fr C N G H ε σ) (h : Rp C.K C.fa G z v) (hc : isC z = false) (q : ∀ G' H' v, Fr C N G' H' ε σ → Go C.tabs (fun _ => False) G H G' H' → RM C m G' H H' z v → Q v H') : Q v H :=
  q G H v F (Go.refl _ _ _ _) (by
    cases m with
    | esc => exact h
    | bor => exact Rp.top F.sub h
    | frx => exact ⟨fun z => (by rw [hc] at z; cases z), fun _ => h⟩)
/-- a new list -/
theorem ok_newL {N : En} {G H : Hp} {ε : Env} {σ : L2.St} {ds : List D} {xs : List V} {Q : VK} (F : Fr C N G H ε σ) (h : RpL C.K C.fa G ds xs) (q : ∀ G' H' v, Fr C N G' H' ε σ → Go C.tabs (fun _ => False) G H G' H' → RM C .frx G' H H' (.lst ds) v → Q v H') {p : Addr} (hp : H p = none) : Q (.ref p) (upd H p (.lst xs)) := by
  obtain ⟨F', g'⟩ := F.newH (o := .lst xs) hp
  exact q G _ _ F' g' ⟨fun _ => ⟨p, rfl, hp, F.gnone hp, xs, upd_same, h⟩, fun z => by cases z⟩
/-- a new tuple -/
theorem ok_newT {m : Mo} {N : En} {G H : Hp} {ε : Env} {σ : L2.St} {ds : List D} {xs : List V} {Q : VK} (F : Fr C N G H ε σ) (h : RpL C.K C.fa G ds xs) (q : ∀ G' H' v, Fr C N G' H' ε σ → Go C.tabs (fun _ => False) G H G' H' → RM C m G' H H' (.tup ds) v → Q v H') : PT.NewT H xs Q := fun p o hp ho => by
  obtain ⟨F', g'⟩ := F.new (o := .frz o (.tup xs)) hp (fun ps z => by cases z)
  have r : Rp C.K C.fa (upd G p (.frz o (.tup xs))) (.tup ds) (.ref p) := ⟨p, xs, rfl, ⟨o, ho, upd_same⟩, h.mono (Sub.new (F.gnone hp))⟩
  exact q _ _ _ F' g' (by
    cases m with
    | esc => exact r
    | bor => exact r
    | frx => exact ⟨fun z => (by cases z), fun _ => r⟩)

/-- + -/
def rAddA (K : PySem.W.Frag) : R2 := fun x y H Q => rI0 (fun i j => .int (i + j)) x y H Q ∨ rCat x y H Q ∨ PT.rCatP K x y H Q
theorem op_addA : OpR X (binaryOp .Add) (rAddA X.K) := OpR.or op_add (OpR.or op_cat PT.op_catP)
theorem ok_add : OpOk C .frx (rAddA C.K) (bop .add) := by
  intro N G H ε σ d e z x y Q F hx hy h q
  cases d with
  | int i =>
    cases e with
    | int j =>
      obtain rfl : x = .int i := hx
      obtain rfl : y = .int j := hy
      cases h
      exact .inl ⟨i, j, rfl, rfl, ok_ret (z := .int (i + j)) F rfl rfl q⟩
    | _ => simp [bop] at h
  | lst ds =>
    cases e with
    | lst es =>
      obtain ⟨a, xs, rfl, h1, h2⟩ := hx
      obtain ⟨b, ys, rfl, k1, k2⟩ := hy
      simp only [bop] at h
      split at h
      · rename_i hl
        cases h
        exact .inr (.inl ⟨a, b, xs, ys, rfl, rfl, h1, k1, by rw [← h2.len, ← k2.len]; exact lim_size hl, fun p hp => ok_newL F (h2.append k2) q hp⟩)
      · cases h
    | _ => simp [bop] at h
  | tup ds =>
    cases e with
    | tup es =>
      obtain ⟨a, xs, rfl, h1, h2⟩ := hx
      obtain ⟨b, ys, rfl, k1, k2⟩ := hy
      simp only [bop] at h
      split at h
      · rename_i hl
        cases h
        refine .inr (.inr ⟨a, b, xs, ys, rfl, rfl, (h1.mono F.sub).sq, (k1.mono F.sub).sq, by rw [← h2.len, ← k2.len]; exact lim_size hl, fun z => ?_, fun _ z => ?_, fun _ _ => ok_newT F (h2.append k2) q⟩)
        · subst z
          have hd : ds = [] := by
            have := h2.len
            exact List.eq_nil_of_length_eq_zero (by rw [this]; rfl)
          subst hd
          exact ok_ret (z := .tup ([] ++ es)) F ⟨b, ys, rfl, k1, k2⟩ rfl q
        · subst z
          have he : es = [] := by
            have := k2.len
            exact List.eq_nil_of_length_eq_zero (by rw [this]; rfl)
          subst he
          rw [List.append_nil] at q
          exact ok_ret (z := .tup ds) F ⟨a, xs, rfl, h1, h2⟩ rfl q
      · cases h
    | _ => simp [bop] at h
  | _ => simp [bop] at h
/-- * -/
def rMulA (K : PySem.W.Frag) : R2 := fun x y H Q => rI CMul (fun i j => .int (i * j)) x y H Q ∨ rRep x y H Q ∨ PT.rRepP K x y H Q ∨ PT.rRep0 K x y H Q
theorem op_mulA : OpR X (binaryOp .Mult) (rMulA X.K) := OpR.or op_mul (OpR.or op_rep (OpR.or PT.op_repP PT.op_rep0))
theorem smallI_of {i : Int} (h : smallI i = true) : -(2 ^ 64) < i ∧ i < 2 ^ 64 := by
  unfold smallI at h
  simp only [Bool.and_eq_true, decide_eq_true_eq] at h
  exact h
theorem ok_mul : OpOk C .frx (rMulA C.K) (bop .mul) := by
  intro N G H ε σ d e z x y Q F hx hy h q
  cases d with
  | int i =>
    cases e with
    | int j =>
      obtain rfl : x = .int i := hx
      obtain rfl : y = .int j := hy
      simp only [bop] at h
      split at h
      · rename_i hs
        cases h
        rw [Bool.or_eq_true] at hs
        refine .inl ⟨i, j, rfl, rfl, ?_, ok_ret (z := .int (i * j)) F rfl rfl q⟩
        rcases hs with hs | hs
        · exact .inl (smallI_of hs)
        · exact .inr (smallI_of hs)
      · cases h
    | _ => simp [bop] at h
  | lst ds =>
    cases e with
    | int k =>
      obtain ⟨a, xs, rfl, h1, h2⟩ := hx
      obtain rfl : y = .int k := hy
      simp only [bop] at h
      split at h
      · rename_i hl
        cases h
        refine .inr (.inl ⟨a, k, xs, rfl, rfl, h1, by omega, by omega, ?_, fun p hp => ok_newL F (h2.rep k.toNat) q hp⟩)
        have hz : xs.length ≤ 1000 := by rw [← h2.len]; exact hl.2.2
        have : xs.length * k.toNat ≤ 1000 * 1000 := Nat.mul_le_mul hz (by omega)
        rw [sizeLine_eq]; omega
      · cases h
    | _ => simp [bop] at h
  | tup ds =>
    cases e with
    | int k =>
      obtain ⟨a, xs, rfl, h1, h2⟩ := hx
      obtain rfl : y = .int k := hy
      simp only [bop] at h
      split at h
      · rename_i hl
        cases h
        by_cases hz : xs = []
        · subst hz
          have e : ds = [] := List.eq_nil_of_length_eq_zero h2.len
          subst e
          have e2 : (List.replicate k.toNat ([] : List D)).flatten = [] := by simp
          rw [e2] at q
          exact .inr (.inr (.inr ⟨a, k, rfl, rfl, (h1.mono F.sub).sq, hl.1, hl.2.1, ok_ret (z := .tup []) F ⟨a, [], rfl, h1, h2⟩ rfl q⟩))
        · exact .inr (.inr (.inl ⟨a, k, xs, rfl, rfl, (h1.mono F.sub).sq, hz, hl.1, hl.2.1, by rw [← h2.len]; exact hl.2.2, ok_newT F (h2.rep k.toNat) q⟩))
      · cases h
    | _ => simp [bop] at h
  | _ => simp [bop] at h
theorem ok_fdv : OpOk C .frx (rI CDiv fun i j => .int (i / j)) (bop .fdv) := by
  intro N G H ε σ d e z x y Q F hx hy h q
  cases d with
  | int i =>
    cases e with
    | int j =>
      obtain rfl : x = .int i := hx
      obtain rfl : y = .int j := hy
      simp only [bop] at h
      split at h
      · rename_i hs
        cases h
        exact ⟨i, j, rfl, rfl, hs, ok_ret (z := .int (i / j)) F rfl rfl q⟩
      · cases h
    | _ => simp [bop] at h
  | _ => cases e <;> simp [bop] at h
theorem ok_mod : OpOk C .frx (rI (fun _ j => 0 < j) fun i j => .int (i % j)) (bop .mod) := by
  intro N G H ε σ d e z x y Q F hx hy h q
  cases d with
  | int i =>
    cases e with
    | int j =>
      obtain rfl : x = .int i := hx
      obtain rfl : y = .int j := hy
      simp only [bop] at h
      split at h
      · rename_i hs
        cases h
        exact ⟨i, j, rfl, rfl, hs, ok_ret (z := .int (i % j)) F rfl rfl q⟩
      · cases h
    | _ => simp [bop] at h
  | _ => cases e <;> simp [bop] at h
theorem ok_pow : OpOk C .frx (rI CPow fun i j => .int (i ^ j.toNat)) (bop .pow) := by
  intro N G H ε σ d e z x y Q F hx hy h q
  cases d with
  | int i =>
    cases e with
    | int j =>
      obtain rfl : x = .int i := hx
      obtain rfl : y = .int j := hy
      simp only [bop] at h
      split at h
      · rename_i hs
        cases h
        have := smallI_of hs.2.2
        exact ⟨i, j, rfl, rfl, ⟨hs.1, by omega, by omega⟩, ok_ret (z := .int (i ^ j.toNat)) F rfl rfl q⟩
      · cases h
    | _ => simp [bop] at h
  | _ => cases e <;> simp [bop] at h
theorem bop_ne (o : BO) : ∀ (d e : D) c x, bop o d e ≠ .er c x := by
  intro d e c x h
  unfold bop at h
  split at h <;> first | cases h | (split at h <;> cases h)
theorem cop_ne (o : CO) : ∀ (d e : D) c x, cop o d e ≠ .er c x := by
  intro d e c x h
  unfold cop at h
  split at h <;> first | cases h | (split at h <;> cases h)
theorem cop_bl (o : CO) : ∀ (d e z : D), cop o d e = .ok z → ∃ t, z = .bl t := by
  intro d e z h
  unfold cop at h
  split at h <;> first | (cases h; exact ⟨_, rfl⟩) | (split at h <;> first | (cases h; exact ⟨_, rfl⟩) | cases h) | cases h

/-! #### is, in -/
def rIsA : R2 := fun x y H Q => (y = .non ∧ Q (.bl (decide (x = .non))) H) ∨ rIsB x y H Q
def rNotA : R2 := fun x y H Q => (y = .non ∧ Q (.bl (!decide (x = .non))) H) ∨ rNotB x y H Q
theorem op_isA : OpR X (compareOp .Is) rIsA := OpR.or op_isN op_isBl
theorem op_notA : OpR X (compareOp .IsNot) rNotA := OpR.or op_notN op_notBl
theorem Top.non_iff {K : PySem.W.Frag} {fa : Nat → Option Addr} {G H : Hp} {d : D} {v : V} (h : Top K fa G H d v) : decide (v = .non) = isNon d := by
  cases d with
  | non => obtain rfl : v = .non := h; rfl
  | bl b => obtain rfl : v = .bl b := h; rfl
  | int b => obtain rfl : v = .int b := h; rfl
  | str b => obtain ⟨rfl, _⟩ := h; rfl
  | tup b => obtain ⟨a, xs, rfl, _⟩ := h; rfl
  | lst b => obtain ⟨a, xs, rfl, _⟩ := h; rfl
  | rol b => obtain ⟨a, xs, rfl, _⟩ := h; rfl
  | dct b => obtain ⟨a, rfl, _⟩ := h; rfl
  | dtt b => obtain ⟨a, rfl, _⟩ := h; rfl
  | fn b => obtain ⟨a, _, rfl⟩ := h; rfl
  | obj b c => exact h.elim
theorem ok_is : OpOk C .esc rIsA (cop .is) := by
  intro N G H ε σ d e z x y Q F hx hy h q
  have hn := hx.non_iff
  cases e with
  | non =>
    obtain rfl : y = .non := hy
    have h' : z = .bl (isNon d) := by
      cases d <;> (simp only [cop] at h; cases h; rfl)
    subst h'
    refine .inl ⟨rfl, ?_⟩
    rw [hn]
    exact ok_ret (z := .bl _) F rfl rfl q
  | bl b =>
    cases d with
    | bl a =>
      obtain rfl : x = .bl a := hx
      obtain rfl : y = .bl b := hy
      cases h
      refine .inr ⟨a, b, rfl, rfl, ?_⟩
      rw [← Bool.beq_eq_decide_eq]
      exact ok_ret (z := .bl (a == b)) F rfl rfl q
    | _ => simp [cop] at h
  | _ => cases d <;> simp [cop] at h
theorem ok_isnot : OpOk C .esc rNotA (cop .isnot) := by
  intro N G H ε σ d e z x y Q F hx hy h q
  have hn := hx.non_iff
  cases e with
  | non =>
    obtain rfl : y = .non := hy
    have h' : z = .bl (!(isNon d)) := by
      cases d <;> (simp only [cop] at h; cases h; rfl)
    subst h'
    refine .inl ⟨rfl, ?_⟩
    rw [hn]
    exact ok_ret (z := .bl _) F rfl rfl q
  | bl b =>
    cases d with
    | bl a =>
      obtain rfl : x = .bl a := hx
      obtain rfl : y = .bl b := hy
      cases h
      refine .inr ⟨a, b, rfl, rfl, ?_⟩
      rw [← Bool.beq_eq_decide_eq]
      exact ok_ret (z := .bl !(a == b)) F rfl rfl q
    | _ => simp [cop] at h
  | _ => cases d <;> simp [cop] at h
end
end Ev
/-! ### in, built-ins, subscripts, displays -/
namespace Ev
open PySem PySem.Spec PyProof.Rows L2

/-! #### in -/
section
variable {C : Cn} {X : Cx}
theorem atom_V {K : PySem.W.Frag} {fa : Nat → Option Addr} {G H : Hp} {d : D} {v : V} (ha : atom d = true) (h : Top K fa G H d v) : flatV v = true ∧ ∀ e u, atom e = true → Top K fa G H e u → eqV v u = eqv d e := by
  cases d with
  | non =>
    obtain rfl : v = .non := h
    refine ⟨rfl, fun e u he k => ?_⟩
    cases e <;> first | cases he | skip
    · obtain rfl : u = .non := k; rfl
    · obtain rfl : u = .bl _ := k; rfl
    · obtain rfl : u = .int _ := k; rfl
    · obtain ⟨rfl, _⟩ := k; rfl
  | bl b =>
    obtain rfl : v = .bl b := h
    refine ⟨rfl, fun e u he k => ?_⟩
    cases e <;> first | cases he | skip
    · obtain rfl : u = .non := k; rfl
    · obtain rfl : u = .bl _ := k; rfl
    · obtain rfl : u = .int _ := k; rfl
    · obtain ⟨rfl, _⟩ := k; rfl
  | int b =>
    obtain rfl : v = .int b := h
    refine ⟨rfl, fun e u he k => ?_⟩
    cases e <;> first | cases he | skip
    · obtain rfl : u = .non := k; rfl
    · obtain rfl : u = .bl _ := k; rfl
    · obtain rfl : u = .int _ := k; rfl
    · obtain ⟨rfl, _⟩ := k; rfl
  | str b =>
    obtain ⟨rfl, _⟩ := h
    refine ⟨rfl, fun e u he k => ?_⟩
    cases e <;> first | cases he | skip
    · obtain rfl : u = .non := k; rfl
    · obtain rfl : u = .bl _ := k; rfl
    · obtain rfl : u = .int _ := k; rfl
    · obtain ⟨rfl, _⟩ := k; rfl
  | _ => cases ha
theorem Top.of_rp {K : PySem.W.Frag} {fa : Nat → Option Addr} {G H : Hp} (sub : Sub G H) {d : D} {v : V} (h : Rp K fa G d v) : Top K fa G H d v := Rp.top sub h
theorem any_mem {K : PySem.W.Frag} {fa : Nat → Option Addr} {G H : Hp} (sub : Sub G H) {d : D} {v : V} (ha : atom d = true) (h : Top K fa G H d v) : ∀ {ds : List D} {vs : List V}, RpL K fa G ds vs → ds.all atom = true → inV v vs = memD d ds ∧ vs.all flatV = true
  | [], vs, k, _ => by rw [show vs = [] from k]; exact ⟨rfl, rfl⟩
  | e :: ds, _, ⟨u, r, e1, k1, k2⟩, hf => by
    subst e1
    rw [List.all_cons, Bool.and_eq_true] at hf
    obtain ⟨m1, m2⟩ := any_mem sub ha h k2 hf.2
    obtain ⟨n1, n2⟩ := atom_V hf.1 (Rp.top sub k1)
    refine ⟨?_, by rw [List.all_cons, n1, m2]; rfl⟩
    show (eqV u v || inV v r) = (eqv e d || memD d ds)
    rw [m1, n2 d v ha h]
/-! keys of dicts -/
def rInK (neg : Bool) : R2 := fun x y H Q => ∃ a o, y = .ref a ∧ DGet H a x o ∧ Q (.bl (if neg = true then !o.isSome else o.isSome)) H
theorem op_inK (hu : X.A.units + 1 < cLine) : OpR X (compareOp .In) (rInK false) := by
  intro pins s σ H x y v u Q I rx ry ⟨a, o, ey, g, q⟩
  subst ey
  obtain rfl : u = Value.ref a := ry
  exact d_in hu I g rx fun s3 I3 => ⟨.bl o.isSome, H, I3, rfl, q⟩
theorem op_notInK (hu : X.A.units + 1 < cLine) : OpR X (compareOp .NotIn) (rInK true) := by
  intro pins s σ H x y v u Q I rx ry ⟨a, o, ey, g, q⟩
  subst ey
  obtain rfl : u = Value.ref a := ry
  exact d_notIn hu I g rx fun s3 I3 => ⟨.bl (!o.isSome), H, I3, rfl, q⟩
theorem eqv_key (a b : Key) : eqv (keyD a) (keyD b) = decide (a = b) := by
  cases a <;> cases b <;> (rw [Bool.eq_iff_iff]; simp [keyD, eqv])
theorem key_V {K : PySem.W.Frag} {fa : Nat → Option Addr} {G H : Hp} {d : D} {x : V} (hk : isKey d = true) (h : Top K fa G H d x) : ∃ k : Key, d = keyD k ∧ x = kV k := by
  cases d with
  | int i => exact ⟨.inl i, rfl, h⟩
  | str z => exact ⟨.inr z, rfl, h.1⟩
  | _ => cases hk
theorem look_V {K : PySem.W.Frag} {fa : Nat → Option Addr} {G : Hp} (k : Key) : ∀ {l : List (D × D)} {kvs : List (Key × V)}, RpK K fa G l kvs → (lookD (keyD k) l).isSome = (valV kvs k).isSome ∧ ∀ d, lookD (keyD k) l = some d → ∃ v, valV kvs k = some v ∧ Rp K fa G d v
  | [], kvs, h => by rw [show kvs = [] from h]; exact ⟨rfl, fun d z => by cases z⟩
  | (q, e) :: l, _, ⟨q', v, r, e1, e2, h1, h2⟩ => by
    subst e1 e2
    obtain ⟨i1, i2⟩ := look_V (K := K) (fa := fa) (G := G) k h2
    unfold lookD valV
    rw [eqv_key]
    by_cases c : q' = k
    · rw [if_pos (decide_eq_true c)]
      simp only [List.find?_cons, c, decide_true]
      exact ⟨rfl, fun d z => by cases z; exact ⟨v, rfl, h1⟩⟩
    · rw [if_neg (by simpa using c)]
      have c' : decide (q' = k) = false := decide_eq_false c
      simp only [List.find?_cons, c']
      exact ⟨i1, i2⟩
theorem eqvL_ints : ∀ (a b : List Int), eqvL (a.map D.int) (b.map D.int) = decide (a = b)
  | [], [] => by simp [eqvL]
  | [], _ :: _ => by simp [eqvL]
  | _ :: _, [] => by simp [eqvL]
  | x :: a, y :: b => by
    show (eqv (.int x) (.int y) && eqvL (a.map D.int) (b.map D.int)) = _
    rw [eqvL_ints a b, Bool.eq_iff_iff]
    simp [eqv]
theorem eqv_keyT (a b : List Int) : eqv (.tup (a.map D.int)) (.tup (b.map D.int)) = decide (a = b) := eqvL_ints a b
theorem isI_map : ∀ {ds : List D}, ds.all isI = true → ∃ ks : List Int, ds = ks.map D.int
  | [], _ => ⟨[], rfl⟩
  | d :: ds, h => by
    rw [List.all_cons, Bool.and_eq_true] at h
    obtain ⟨ks, e⟩ := isI_map h.2
    cases d with
    | int i => exact ⟨i :: ks, by rw [e]; rfl⟩
    | _ => cases h.1
theorem rpl_ints {K : PySem.W.Frag} {fa : Nat → Option Addr} {G : Hp} : ∀ {ks : List Int} {vs : List V}, RpL K fa G (ks.map D.int) vs → vs = ks.map V.int
  | [], vs, h => h
  | k :: ks, _, ⟨v, r, e, h1, h2⟩ => by
    rw [e, rpl_ints h2]
    obtain rfl : v = .int k := h1
    rfl
theorem keyT_V {K : PySem.W.Frag} {fa : Nat → Option Addr} {G H : Hp} {d : D} {x : V} (hk : isKeyT d = true) (h : Top K fa G H d x) : ∃ (ks : List Int) (b : Addr), d = .tup (ks.map .int) ∧ x = .ref b ∧ PT.PlT G b (ks.map V.int) := by
  cases d with
  | tup ds =>
    obtain ⟨b, xs, rfl, h1, h2⟩ := h
    obtain ⟨ks, rfl⟩ := isI_map hk
    rw [rpl_ints h2] at h1
    exact ⟨ks, b, rfl, rfl, h1⟩
  | _ => cases hk
theorem RpT.keys {K : PySem.W.Frag} {fa : Nat → Option Addr} {G : Hp} : ∀ {l : List (D × D)} {xs : List PT.KEnt}, RpT K fa G l xs → PT.KeysT G xs
  | [], xs, h => by rw [show xs = [] from h]; exact fun x m => by cases m
  | (_, _) :: l, _, ⟨ks, b, u, v, r, e, _, h0, _, _, h⟩ => by
    rw [e]
    intro x m
    rcases List.mem_cons.mp m with m | m
    · rw [m]; exact h0
    · exact RpT.keys h x m
theorem RpT.len {K : PySem.W.Frag} {fa : Nat → Option Addr} {G : Hp} : ∀ {l : List (D × D)} {xs : List PT.KEnt}, RpT K fa G l xs → l.length = xs.length
  | [], xs, h => by rw [show xs = [] from h]; rfl
  | (_, _) :: l, _, ⟨ks, b, u, v, r, e, _, h0, _, _, h⟩ => by rw [e, List.length_cons, List.length_cons, RpT.len h]
theorem lookT_V {K : PySem.W.Frag} {fa : Nat → Option Addr} {G : Hp} (k : List Int) : ∀ {l : List (D × D)} {xs : List PT.KEnt}, RpT K fa G l xs → (lookD (.tup (k.map .int)) l).isSome = (atKey xs k).isSome ∧ ∀ d, lookD (.tup (k.map .int)) l = some d → ∃ p v, atKey xs k = some p ∧ RelV v p.2 ∧ Rp K fa G d v
  | [], xs, h => by rw [show xs = [] from h]; exact ⟨rfl, fun d z => by cases z⟩
  | (q, e) :: l, _, ⟨ks, b, u, v, r, e1, e2, h0, h1, h2, h3⟩ => by
    subst e1 e2
    obtain ⟨i1, i2⟩ := lookT_V (K := K) (fa := fa) (G := G) k h3
    unfold lookD atKey
    rw [eqv_keyT]
    by_cases c : ks = k
    · rw [if_pos (decide_eq_true c)]
      simp only [List.find?_cons, c, decide_true]
      exact ⟨rfl, fun d z => by cases z; exact ⟨_, v, rfl, h1, h2⟩⟩
    · rw [if_neg (by simpa using c)]
      have c' : decide (ks = k) = false := decide_eq_false c
      simp only [List.find?_cons, c']
      exact ⟨i1, i2⟩
theorem RpT.putT {K : PySem.W.Frag} {fa : Nat → Option Addr} {G : Hp} {k : List Int} {b : Addr} {d : D} {v : V} {u : Value} (hb : PT.PlT G b (k.map V.int)) (rv : RelV v u) (hd : Rp K fa G d v) {l : List (D × D)} {xs : List PT.KEnt} (h : RpT K fa G l xs) : RpT K fa G (putD (.tup (k.map .int)) d l) (storedH xs k b u) := by
  have any : ∀ {l : List (D × D)} {xs : List PT.KEnt}, RpT K fa G l xs → (l.any fun p => eqv p.1 (.tup (k.map .int))) = (atKey xs k).isSome := by
    intro l
    induction l with
    | nil => intro xs h; rw [show xs = [] from h]; rfl
    | cons p l ih =>
      intro xs h
      obtain ⟨q, e⟩ := p
      obtain ⟨ks, b', u', v', r, e1, e2, h0, h1, h2, h3⟩ := h
      subst e1 e2
      rw [List.any_cons, ih h3, eqv_keyT]
      unfold atKey
      by_cases c : ks = k
      · simp [List.find?_cons, c]
      · have c' : decide (ks = k) = false := decide_eq_false c
        simp only [List.find?_cons, c', Bool.false_or]
  have mp : ∀ {l : List (D × D)} {xs : List PT.KEnt}, RpT K fa G l xs → RpT K fa G (l.map fun p => if eqv p.1 (.tup (k.map .int)) = true then (p.1, d) else p) (xs.map (putAt k u)) := by
    intro l
    induction l with
    | nil => intro xs h; rw [show xs = [] from h]; exact rfl
    | cons p l ih =>
      intro xs h
      obtain ⟨q, e⟩ := p
      obtain ⟨ks, b', u', v', r, e1, e2, h0, h1, h2, h3⟩ := h
      subst e1 e2
      rw [List.map_cons, List.map_cons]
      by_cases c : ks = k
      · rw [if_pos (by rw [eqv_keyT]; exact decide_eq_true c)]
        exact ⟨ks, b', u, v, _, by unfold putAt; rw [if_pos c], rfl, h0, rv, hd, ih h3⟩
      · rw [if_neg (by rw [eqv_keyT]; simpa using c)]
        exact ⟨ks, b', u', v', _, by unfold putAt; rw [if_neg c], rfl, h0, h1, h2, ih h3⟩
  have ap : ∀ {l : List (D × D)} {xs : List PT.KEnt}, RpT K fa G l xs → RpT K fa G (l ++ [(.tup (k.map .int), d)]) (xs ++ [(k, b, u)]) := by
    intro l
    induction l with
    | nil => intro xs h; rw [show xs = [] from h]; exact ⟨k, b, u, v, [], rfl, rfl, hb, rv, hd, rfl⟩
    | cons p l ih =>
      intro xs h
      obtain ⟨q, e⟩ := p
      obtain ⟨ks, b', u', v', r, e1, e2, h0, h1, h2, h3⟩ := h
      subst e1 e2
      exact ⟨ks, b', u', v', _, rfl, rfl, h0, h1, h2, ih h3⟩
  unfold putD storedH
  rw [any h]
  by_cases q : (atKey xs k).isSome = true
  · rw [if_pos q, if_pos q]; exact mp h
  · rw [if_neg q, if_neg q]; exact ap h
def rInA (K : PySem.W.Frag) : R2 := fun x y H Q => rIn K false x y H Q ∨ rInD K x y H Q ∨ rInK false x y H Q
def rNotInA (K : PySem.W.Frag) : R2 := fun x y H Q => rIn K true x y H Q ∨ rNotInD K x y H Q ∨ rInK true x y H Q
theorem op_inA (hu : X.A.units + 65 < cLine) : OpR X (compareOp .In) (rInA X.K) := OpR.or op_in_seq (OpR.or (op_inD hu) (op_inK (by omega)))
theorem op_notInA (hu : X.A.units + 65 < cLine) : OpR X (compareOp .NotIn) (rNotInA X.K) := OpR.or op_notIn_seq (OpR.or (op_notInD hu) (op_notInK (by omega)))
theorem any_py (d : D) (hd : flat d = true) : ∀ ds : List D, flatL ds = true → (pyL ds).any (fun z => PyData.eqv z (py d)) = memD d ds
  | [], _ => rfl
  | e :: ds, h => by
    have h' : (flat e && flatL ds) = true := h
    rw [Bool.and_eq_true] at h'
    show (PyData.eqv (py e) (py d) || (pyL ds).any _) = (eqv e d || memD d ds)
    rw [eqv_py e d h'.1 hd, any_py d hd ds h'.2]
theorem shp {d : D} (h : okE d = true) (k : (py d).canLay0 = true) : SeqAt.shaped (py d) = true := by
  obtain ⟨h1, h2⟩ := okE_of h
  unfold SeqAt.shaped
  rw [k, dep_py d h1]
  exact decide_eq_true h2
theorem ok_in : OpOk C .esc (rInA C.K) (cop .inn) := by
  intro N G H ε σ d e z x y Q F hx hy h q
  cases e with
  | lst xs =>
    simp only [cop] at h
    split at h
    · rename_i hc
      rw [Bool.and_eq_true] at hc
      cases h
      obtain ⟨k1, l1⟩ := Top.dp F.sub (okE_of hc.1).1 hx
      obtain ⟨k2, l2⟩ := Top.dp F.sub (okE_of hc.2).1 hy
      refine .inr (.inl ⟨py d, pyL xs, k1, k2, shp hc.1 l1, shp hc.2 l2, ?_⟩)
      rw [any_py d (okE_of hc.1).1 xs (okE_of hc.2).1]
      exact ok_ret (z := .bl _) F rfl rfl q
    · cases h
  | tup xs =>
    simp only [cop] at h
    split at h
    · rename_i hc
      rw [Bool.and_eq_true] at hc
      cases h
      obtain ⟨a, vs, rfl, h1, h2⟩ := hy
      obtain ⟨m1, m2⟩ := any_mem F.sub hc.1 hx h2 hc.2
      refine .inl ⟨a, vs, rfl, .inr (h1.mono F.sub).sq, (atom_V hc.1 hx).1, m2, ?_⟩
      simp only [Bool.false_eq_true, if_false]
      rw [m1]
      exact ok_ret (z := .bl _) F rfl rfl q
    · cases h
  | rol xs =>
    simp only [cop] at h
    split at h
    · rename_i hc
      rw [Bool.and_eq_true] at hc
      cases h
      obtain ⟨a, vs, rfl, h1, h2⟩ := hy
      obtain ⟨m1, m2⟩ := any_mem F.sub hc.1 hx h2 hc.2
      refine .inl ⟨a, vs, rfl, .inl (F.sub.l h1), (atom_V hc.1 hx).1, m2, ?_⟩
      simp only [Bool.false_eq_true, if_false]
      rw [m1]
      exact ok_ret (z := .bl _) F rfl rfl q
    · cases h
  | dct kvs =>
    obtain ⟨a, rfl, ks, h1, h2⟩ := hy
    have h' : (if isKey d = true then Res.ok (D.bl (lookD d kvs).isSome) else .no) = .ok z := by cases d <;> exact h
    by_cases hk : isKey d = true
    · rw [if_pos hk] at h'
      cases h'
      obtain ⟨k, rfl, rfl⟩ := key_V hk hx
      refine .inr (.inr ⟨a, _, rfl, DGet.k h1, ?_⟩)
      rw [← (look_V k h2).1]
      exact ok_ret (z := .bl _) F rfl rfl q
    · rw [if_neg hk] at h'
      cases h'
  | _ => cases d <;> simp [cop] at h
theorem ok_notin : OpOk C .esc (rNotInA C.K) (cop .notin) := by
  intro N G H ε σ d e z x y Q F hx hy h q
  cases e with
  | lst xs =>
    simp only [cop] at h
    split at h
    · rename_i hc
      rw [Bool.and_eq_true] at hc
      cases h
      obtain ⟨k1, l1⟩ := Top.dp F.sub (okE_of hc.1).1 hx
      obtain ⟨k2, l2⟩ := Top.dp F.sub (okE_of hc.2).1 hy
      refine .inr (.inl ⟨py d, pyL xs, k1, k2, shp hc.1 l1, shp hc.2 l2, ?_⟩)
      rw [any_py d (okE_of hc.1).1 xs (okE_of hc.2).1]
      exact ok_ret (z := .bl _) F rfl rfl q
    · cases h
  | tup xs =>
    simp only [cop] at h
    split at h
    · rename_i hc
      rw [Bool.and_eq_true] at hc
      cases h
      obtain ⟨a, vs, rfl, h1, h2⟩ := hy
      obtain ⟨m1, m2⟩ := any_mem F.sub hc.1 hx h2 hc.2
      refine .inl ⟨a, vs, rfl, .inr (h1.mono F.sub).sq, (atom_V hc.1 hx).1, m2, ?_⟩
      simp only [if_true]
      rw [m1]
      exact ok_ret (z := .bl _) F rfl rfl q
    · cases h
  | rol xs =>
    simp only [cop] at h
    split at h
    · rename_i hc
      rw [Bool.and_eq_true] at hc
      cases h
      obtain ⟨a, vs, rfl, h1, h2⟩ := hy
      obtain ⟨m1, m2⟩ := any_mem F.sub hc.1 hx h2 hc.2
      refine .inl ⟨a, vs, rfl, .inl (F.sub.l h1), (atom_V hc.1 hx).1, m2, ?_⟩
      simp only [if_true]
      rw [m1]
      exact ok_ret (z := .bl _) F rfl rfl q
    · cases h
  | dct kvs =>
    obtain ⟨a, rfl, ks, h1, h2⟩ := hy
    have h' : (if isKey d = true then Res.ok (D.bl !((lookD d kvs).isSome)) else .no) = .ok z := by cases d <;> exact h
    by_cases hk : isKey d = true
    · rw [if_pos hk] at h'
      cases h'
      obtain ⟨k, rfl, rfl⟩ := key_V hk hx
      refine .inr (.inr ⟨a, _, rfl, DGet.k h1, ?_⟩)
      rw [← (look_V k h2).1]
      exact ok_ret (z := .bl _) F rfl rfl q
    · rw [if_neg hk] at h'
      cases h'
  | _ => cases d <;> simp [cop] at h

/-! #### subscripts -/
def rIxA (K : PySem.W.Frag) : R2 := fun x y H Q => rIxL K x y H Q ∨ rIxT K x y H Q ∨ PT.rIxDct x y H Q ∨ PT.rIxDT x y H Q
theorem ix_A (hu : X.A.units + 1 < cLine) : IxR X (rIxA X.K) := ix_list.or (ix_tup.or ((PT.ix_dct hu).or (PT.ix_dT hu)))
theorem ixD_eq (n : Nat) (i : Int) : ixD n i = ixN n i := rfl
theorem at_V {K : PySem.W.Frag} {fa : Nat → Option Addr} {G : Hp} {ds : List D} {vs : List V} {i : Int} {z : D} (h : RpL K fa G ds vs) (e : atD ds i = .ok z) : ∃ v, atI vs i = some v ∧ Rp K fa G z v := by
  unfold atD at e
  split at e
  · rename_i d hd
    cases e
    obtain ⟨j, h1, h2⟩ := Option.bind_eq_some_iff.mp hd
    obtain ⟨v, k1, k2⟩ := h.get h2
    refine ⟨v, ?_, k2⟩
    unfold atI
    rw [← h.len, ← ixD_eq, h1]
    exact k1
  · cases e
theorem iop_ne : ∀ (d e : D) c x, iop d e ≠ .er c x := by
  intro d e c x h
  unfold iop at h
  split at h <;> first | (unfold atD at h; split at h <;> cases h) | (split at h <;> first | cases h | (split at h <;> cases h)) | cases h
theorem ok_ix : OpOk C .esc (rIxA C.K) iop := by
  intro N G H ε σ d e z x y Q F hx hy h q
  cases d with
  | tup ds =>
    cases e with
    | int i =>
      obtain ⟨a, vs, rfl, h1, h2⟩ := hx
      obtain rfl : y = .int i := hy
      obtain ⟨v, k1, k2⟩ := at_V h2 h
      exact .inr (.inl ⟨a, vs, i, v, rfl, rfl, (h1.mono F.sub).sq, k1, q G H v F (Go.refl _ _ _ _) k2⟩)
    | _ => simp [iop] at h
  | lst ds =>
    cases e with
    | int i =>
      obtain ⟨a, vs, rfl, h1, h2⟩ := hx
      obtain rfl : y = .int i := hy
      obtain ⟨v, k1, k2⟩ := at_V h2 h
      exact .inl ⟨a, vs, i, v, rfl, rfl, SqL.of h1, k1, q G H v F (Go.refl _ _ _ _) k2⟩
    | _ => simp [iop] at h
  | rol ds =>
    cases e with
    | int i =>
      obtain ⟨a, vs, rfl, h1, h2⟩ := hx
      obtain rfl : y = .int i := hy
      obtain ⟨v, k1, k2⟩ := at_V h2 h
      exact .inl ⟨a, vs, i, v, rfl, rfl, F.sub.l h1, k1, q G H v F (Go.refl _ _ _ _) k2⟩
    | _ => simp [iop] at h
  | dct kvs =>
    obtain ⟨a, rfl, ks, h1, h2⟩ := hx
    have h' : (if isKey e = true then (match lookD e kvs with | some d => Res.ok d | none => .no) else .no) = .ok z := by cases e <;> exact h
    by_cases hk : isKey e = true
    · rw [if_pos hk] at h'
      obtain ⟨k, rfl, rfl⟩ := key_V hk hy
      cases hl : lookD (keyD k) kvs with
      | none => rw [hl] at h'; cases h'
      | some d =>
        rw [hl] at h'
        cases h'
        obtain ⟨v, k1, k2⟩ := (look_V k h2).2 _ hl
        refine .inr (.inr (.inl ⟨a, v, rfl, ?_, q G H v F (Go.refl _ _ _ _) k2⟩))
        rw [← k1]
        exact DGet.k h1
    · rw [if_neg hk] at h'
      cases h'
  | dtt kvs =>
    obtain ⟨a, rfl, xs, h1, h2⟩ := hx
    have h' : (if isKeyT e = true then (match lookD e kvs with | some d => Res.ok d | none => .no) else .no) = .ok z := by cases e <;> exact h
    by_cases hk : isKeyT e = true
    · rw [if_pos hk] at h'
      obtain ⟨k, b, rfl, rfl, hb⟩ := keyT_V hk hy
      cases hl : lookD (.tup (k.map .int)) kvs with
      | none => rw [hl] at h'; cases h'
      | some d =>
        rw [hl] at h'
        cases h'
        obtain ⟨p, v, k1, k2, k3⟩ := (lookT_V k h2).2 _ hl
        exact .inr (.inr (.inr ⟨a, b, k, xs, p, v, rfl, rfl, h1, h2.keys.mono F.sub, hb.mono F.sub, k1, k2, q G H v F (Go.refl _ _ _ _) k3⟩))
    · rw [if_neg hk] at h'
      cases h'
  | _ => simp [iop] at h
variable {e a b c : Expr} {f g h : Env → Res (D × Env)} {p pa pb pc : Bool} {pos : Pos}
theorem tr_two' {m mo : Mo} {r : R2} {op : D → D → Res D} (hm : m ≠ .frx) (hk : pb = true ∨ m = .esc) (ho : OpOk C mo r op) (hne : ∀ d e c x, op d e ≠ .er c x) {σ : L2.St} {H : Hp} {Q : VK}
    (w : tR C (pa && pb) mo (fun ε => (f ε).bind fun p => (g p.2).bind fun q => (op p.1 q.1).bind fun d => .ok (d, q.2)) σ H Q) : tR C pa m f σ H fun x H1 => tR C pb .esc g σ H1 fun y H2 => r x y H2 Q := by
  obtain ⟨N, G, ε, F, w⟩ := tr_two hm hk ho hne w
  exact ⟨N, G, ε, F, w.imp fun d G1 H1 ε1 F1 g1 q v rv => let ⟨N', G', ε', F', w'⟩ := q v rv; ⟨N', G', ε', F', w'.imp fun d2 G2 H2 ε2 F2 g2 q2 u ru => q2 u (Rp.top F2.sub ru)⟩⟩
theorem pe_idx {m : Mo} (hu : X.A.units + 1 < cLine) (hm : m ≠ .frx) (hk : pb = true ∨ m = .esc) (hp : PlainIx b) (hK : X.K = C.K) (ha : PE X a (tR C pa m f)) (hb : PE X b (tR C pb .esc g)) :
    PE X (.Subscript a b pos) (tR C (pa && pb) .esc (fun ε => (f ε).bind fun p => (g p.2).bind fun q => (iop p.1 q.1).bind fun d => .ok (d, q.2))) := by
  refine PE.imp (pe_ix (ix_A hu) ha hb hp) fun _ _ _ w => ?_
  rw [hK]
  exact tr_two' hm hk ok_ix iop_ne w

/-! #### slices -/
theorem prt_ne (ab : Bool) : ∀ (d : D) c x, prt ab d ≠ .er c x := by
  intro d c x
  cases d <;> simp only [prt] <;> first | (intro z; cases z) | (split <;> intro z <;> cases z)
theorem slD_ne : ∀ (d : D) l h c x, slD d l h ≠ .er c x := by
  intro d l h c x
  cases d <;> simp [slD]
/-- a part of a slice -/
def tO (C : Cn) (p ab : Bool) (f : Env → Res (D × Env)) : TO := fun σ H Q => ∃ N G ε, Fr C N G H ε σ ∧ Post C N σ p G H ((f ε).bind fun q => (prt ab q.1).bind fun l => .ok (l, q.2)) fun l _ H' _ => Q l H'
theorem PO.imp {o : Option Expr} {t t' : TO} (h : PO X o t) (k : ∀ σ H Q, t' σ H Q → t σ H Q) : PO X o t' := ⟨fun pins s σ H Q I w => h.run pins s σ H Q I (k σ H Q w)⟩
theorem po_n : PO X none (tO C true true fun ε => .ok (.non, ε)) := PO.imp po_none fun σ H Q ⟨N, G, ε, F, w⟩ => Post.here F w
theorem po_s (ha : PE X a (tR C p .esc f)) : PO X (some a) (tO C p false f) := by
  refine PO.imp (po_some ha) fun σ H Q ⟨N, G, ε, F, w⟩ => ⟨N, G, ε, F, ?_⟩
  cases hf : f ε with
  | no => rw [hf] at w; exact w
  | er c x => rw [hf] at w; exact w
  | ok q =>
    rw [hf] at w
    have w' : Post C N σ p G H ((prt false q.1).bind fun l => .ok (l, q.2)) fun l _ H' _ => Q l H' := w
    obtain ⟨l, hl, w2⟩ := w'.val (prt_ne false q.1)
    intro G' H' F' g' v rv
    cases hd : q.1 with
    | int i =>
      rw [hd] at hl rv
      cases hl
      exact ⟨i, rv, w2 G' H' F' g'⟩
    | non => rw [hd] at hl; cases hl
    | _ => rw [hd] at hl; cases hl
theorem sIx_eq (n d : Nat) (o : Option Int) : sIxD n d o = HT.sIx n d o := by
  cases o <;> rfl
theorem cut_V {K : PySem.W.Frag} {fa : Nat → Option Addr} {G : Hp} {ds : List D} {vs : List V} (h : RpL K fa G ds vs) (lo hi : Option Int) : RpL K fa G (cutD ds lo hi) (cutV vs lo hi) := by
  unfold cutD cutV
  rw [sIx_eq, sIx_eq, h.len]
  exact RpL.take _ (RpL.drop _ h)
def rSl (K : PySem.W.Frag) : V → Option Int → Option Int → Hp → VK → Prop := fun x lo hi H Q => rSlL K x lo hi H Q ∨ PT.rSlP K x lo hi H Q
theorem sl_A : SlR X (rSl X.K) := sl_list.or PT.sl_tupP
theorem ok_sl {N : En} {G H : Hp} {ε : Env} {σ : L2.St} {d z : D} {x : V} {lo hi : Option Int} {Q : VK} (F : Fr C N G H ε σ) (hx : Top C.K C.fa G H d x) (h : slD d lo hi = .ok z)
    (q : ∀ G' H' v, Fr C N G' H' ε σ → Go C.tabs (fun _ => False) G H G' H' → RM C .frx G' H H' z v → Q v H') : rSl C.K x lo hi H Q := by
  cases d with
  | lst ds =>
    obtain ⟨a, vs, rfl, h1, h2⟩ := hx
    cases h
    exact .inl ⟨a, vs, rfl, SqL.of h1, fun p hp => ok_newL F (cut_V h2 lo hi) q hp⟩
  | tup ds =>
    obtain ⟨a, vs, rfl, h1, h2⟩ := hx
    cases h
    refine .inr ⟨a, vs, rfl, (h1.mono F.sub).sq, fun hw => ?_, fun _ => ok_newT F (cut_V h2 lo hi) q⟩
    have e : cutD ds lo hi = ds := by
      unfold cutD
      rw [sIx_eq, sIx_eq, h2.len, hw.1, hw.2, Nat.sub_zero, List.drop_zero, ← h2.len, List.take_length]
    rw [e] at q
    exact ok_ret (z := .tup ds) F ⟨a, vs, rfl, h1, h2⟩ rfl q
  | _ => cases h
theorem pe_sl {m : Mo} {lo hi : Option Expr} {al ah : Bool} {p2 : Pos} (hm : m ≠ .frx) (hk : (pb = true ∧ pc = true) ∨ m = .esc) (hK : X.K = C.K) (ha : PE X a (tR C pa m f)) (hl : PO X lo (tO C pb al g)) (hh : PO X hi (tO C pc ah h)) :
    PE X (.Subscript a (.Slice lo hi none p2) pos) (tR C (pa && (pb && pc)) .frx (fun ε => (f ε).bind fun p => ((g p.2).bind fun q => (prt al q.1).bind fun l => .ok (l, q.2)).bind fun q => ((h q.2).bind fun q => (prt ah q.1).bind fun l => .ok (l, q.2)).bind fun r =>
      (slD p.1 q.1 r.1).bind fun d => .ok (d, r.2))) := by
  refine PE.imp (pe_slice sl_A ha hl hh) fun σ H Q ⟨N, G, ε, F, w⟩ => ⟨N, G, ε, F, ?_⟩
  rw [hK]
  refine w.bind.imp fun d G1 H1 ε1 F1 g1 w1 v rv => ⟨N, G1, ε1, F1, ?_⟩
  refine w1.bind.imp fun l G2 H2 ε2 F2 g2 w2 => ⟨N, G2, ε2, F2, ?_⟩
  have w2' : Post C N σ (pc && true) G2 H2 (((h ε2).bind fun q => (prt ah q.1).bind fun l => .ok (l, q.2)).bind fun r => (slD d l r.1).bind fun z => .ok (z, r.2)) fun d G' H' _ => ∀ v, RM C .frx G' H H' d v → Q v H' := by rw [Bool.and_true]; exact w2
  refine w2'.bind.imp fun u G3 H3 ε3 F3 g3 w3 => ?_
  obtain ⟨z, hz, w4⟩ := w3.val (slD_ne d l u)
  have tt : ∀ {M : Addr → Prop} {G H G' H' : Hp}, Go C.tabs M G H G' H' → Go C.tabs (fun _ => True) G H G' H' := fun g => g.weak fun _ _ => True.intro
  have top3 : Top C.K C.fa G3 H3 d v := by
    rcases hk with ⟨k1, k2⟩ | k
    · subst k1
      have t2 := top_keep (C := C) (pb := true) hm (.inl rfl) F2 g2 rv
      cases pc with
      | false => cases k2
      | true => exact Top.mono g3.ext (fun b o h t => g3.keep b o h (fun z => z.true_) t) t2
    · subst k
      exact Rp.top F3.sub (Rp.mono (g2.ext.trans g3.ext) rv)
  exact ok_sl F3 top3 hz fun G' H' v' F' g' r' => w4 G' H' F' (g'.weak fun _ z => z.elim) v' (RM.back (N := N) (tt g1) (RM.back (N := N) (tt g2) (RM.back (N := N) (tt g3) r')))
/-- [::-1] -/
theorem pe_rv {k : Nat} {p1 p2 p3 : Pos} {m : Mo} (hm : m ≠ .frx) (hK : X.K = C.K) (ha : PE X a (tR C p m f)) : PE X (.Subscript a (.Slice none none (some (.UnaryOp .USub (.Constant (.int 1) k p1) p2)) p3) pos) (tR C p .frx (fun ε => (f ε).bind fun p => match p.1 with
      | .lst ds => .ok (.lst ds.reverse, p.2)
      | .tup ds => .ok (.tup ds.reverse, p.2)
      | _ => .no)) := by
  refine PE.imp (PT.pe_revA ha) fun σ H Q ⟨N, G, ε, F, w⟩ => ⟨N, G, ε, F, ?_⟩
  rw [hK]
  have w' : Post C N σ (p && true) G H ((f ε).bind fun p => match p.1 with
      | .lst ds => .ok (.lst ds.reverse, p.2)
      | .tup ds => .ok (.tup ds.reverse, p.2)
      | _ => .no) fun d G' H' _ => ∀ v, RM C .frx G' H H' d v → Q v H' := by rw [Bool.and_true]; exact w
  refine w'.bind.imp fun d G1 H1 ε1 F1 g1 w1 v rv => ?_
  cases d with
  | lst ds =>
    obtain ⟨a, xs, rfl, h1, h2⟩ := top_keep (C := C) (pb := true) hm (.inl rfl) F1 (Go.refl _ (Mx C σ true) _ _) rv
    exact ⟨a, xs, rfl, .inl ⟨SqL.of h1, fun q hq => ok_newL F1 h2.rev (fun G' H' v' F' g' r' => w1 G' H' F' (g'.weak fun _ z => z.elim) v' (RM.back (N := N) (g1.weak (M' := fun _ => True) fun _ _ => True.intro) r')) hq⟩⟩
  | tup ds =>
    obtain ⟨a, xs, rfl, h1, h2⟩ := top_keep (C := C) (pb := true) hm (.inl rfl) F1 (Go.refl _ (Mx C σ true) _ _) rv
    exact ⟨a, xs, rfl, .inr ⟨(h1.mono F1.sub).sq, ok_newT (m := .frx) F1 h2.rev (fun G' H' v' F' g' r' => w1 G' H' F' (g'.weak fun _ z => z.elim) v' (RM.back (N := N) (g1.weak (M' := fun _ => True) fun _ _ => True.intro) r'))⟩⟩
  | _ => exact w1.elim

/-! #### displays -/
theorem tl_nil : PA X [] (tL C true fun ε => .ok ([], ε)) := PA.imp pa_nil fun σ H Q ⟨N, G, ε, F, w⟩ => Post.here F w [] rfl
theorem tl_cons {es : List Expr} {fl : Env → Res (List D × Env)} (ha : PE X a (tR C pa .esc f)) (hr : PA X es (tL C pb fl)) (hs : starEach (a :: es) X.env = (false, eval a X.env) :: starEach es X.env) :
    PA X (a :: es) (tL C (pa && pb) fun ε => (f ε).bind fun p => (fl p.2).bind fun q => .ok (p.1 :: q.1, q.2)) := by
  refine PA.imp (pa_cons ha hr hs) fun σ H Q ⟨N, G, ε, F, w⟩ => ⟨N, G, ε, F, ?_⟩
  refine w.bind.imp fun d G1 H1 ε1 F1 g1 w1 v rv => ⟨N, G1, ε1, F1, ?_⟩
  have w1' : Post C N σ (pb && true) G1 H1 ((fl ε1).bind fun q => .ok (d :: q.1, q.2)) fun ds G' H' _ => ∀ vs, RpL C.K C.fa G' ds vs → Q vs H' := by rw [Bool.and_true]; exact w1
  refine w1'.bind.imp fun ds G2 H2 ε2 F2 g2 w2 vs rvs => ?_
  exact w2.here F2 (v :: vs) ⟨v, vs, rfl, Rp.mono g2.ext rv, rvs⟩
theorem items_ne : ∀ (d : D) c x, itemsD d ≠ .er c x := by
  intro d c x
  cases d <;> simp [itemsD]
theorem items_V {G H : Hp} (sub : Sub G H) {d : D} {xs : List D} {v : V} (h : itemsD d = .ok xs) (r : Rp C.K C.fa G d v) : ∃ a vs, v = .ref a ∧ (SqT C.K H a vs ∨ SqL C.K H a vs) ∧ RpL C.K C.fa G xs vs := by
  cases d with
  | tup ds =>
    obtain ⟨a, vs, e, h1, h2⟩ := r
    cases h
    exact ⟨a, vs, e, .inl (h1.mono sub).sq, h2⟩
  | lst ds =>
    obtain ⟨a, vs, e, h1, h2⟩ := r
    cases h
    exact ⟨a, vs, e, .inr (SqL.of (sub _ _ h1)), h2⟩
  | rol ds =>
    obtain ⟨a, vs, e, h1, h2⟩ := r
    cases h
    exact ⟨a, vs, e, .inr (sub.l h1), h2⟩
  | _ => cases h
theorem tl_star {es : List Expr} {sp : Pos} {fl : Env → Res (List D × Env)} (hK : X.K = C.K) (ha : PE X a (tR C pa .esc f)) (hr : PA X es (tL C pb fl)) :
    PA X (.Starred a sp :: es) (tL C (pa && pb) fun ε => (f ε).bind fun p => (itemsD p.1).bind fun xs => (fl p.2).bind fun q => .ok (xs ++ q.1, q.2)) := by
  refine PA.imp (StX.pa_star ha hr) fun σ H Q ⟨N, G, ε, F, w⟩ => ⟨N, G, ε, F, ?_⟩
  rw [hK]
  refine w.bind.imp fun d G1 H1 ε1 F1 g1 w1 v rv => ?_
  obtain ⟨xs, hx, w2⟩ := w1.val (items_ne d)
  obtain ⟨a, vs, e, hq, hvs⟩ := items_V F1.sub hx rv
  refine ⟨a, vs, e, hq, N, G1, ε1, F1, ?_⟩
  have w2' : Post C N σ (pb && true) G1 H1 ((fl ε1).bind fun q => .ok (xs ++ q.1, q.2)) fun ds G' H' _ => ∀ vs, RpL C.K C.fa G' ds vs → Q vs H' := by rw [Bool.and_true]; exact w2
  refine w2'.bind.imp fun ds G2 H2 ε2 F2 g2 w3 us rus => ?_
  exact w3.here F2 (vs ++ us) ((RpL.mono g2.ext hvs).append rus)
theorem size_ne : ∀ (d : List D) c x, sizeOk d ≠ .er c x := by
  intro d c x
  unfold sizeOk
  split <;> simp
theorem pe_tp {es : List Expr} {k : Nat} {fl : Env → Res (List D × Env)} (h : PA X es (tL C p fl)) : PE X (.Tuple es k pos) (tR C p .esc fun ε => (fl ε).bind fun p => (sizeOk p.1).bind fun ds => .ok (.tup ds, p.2)) := by
  refine PE.imp (PT.pe_tupP h) fun σ H Q ⟨N, G, ε, F, w⟩ => ⟨N, G, ε, F, ?_⟩
  have w' : Post C N σ (p && true) G H ((fl ε).bind fun p => (sizeOk p.1).bind fun ds => .ok (.tup ds, p.2)) fun d G' H' _ => ∀ v, RM C .esc G' H H' d v → Q v H' := by rw [Bool.and_true]; exact w
  refine w'.bind.imp fun ds G1 H1 ε1 F1 g1 w1 vs rvs => ?_
  obtain ⟨z, hz, w2⟩ := w1.val (size_ne ds)
  unfold sizeOk at hz
  split at hz
  · rename_i hl
    cases hz
    exact ⟨by rw [← rvs.len]; exact lim_size hl, ok_newT (m := .esc) F1 rvs (fun G' H' v' F' g' r' => w2 G' H' F' (g'.weak fun _ z => z.elim) v' r')⟩
  · cases hz
theorem pe_ls {es : List Expr} {fl : Env → Res (List D × Env)} (h : PA X es (tL C p fl)) : PE X (.List es pos) (tR C p .frx fun ε => (fl ε).bind fun p => (sizeOk p.1).bind fun ds => .ok (.lst ds, p.2)) := by
  refine PE.imp (pe_lst h) fun σ H Q ⟨N, G, ε, F, w⟩ => ⟨N, G, ε, F, ?_⟩
  have w' : Post C N σ (p && true) G H ((fl ε).bind fun p => (sizeOk p.1).bind fun ds => .ok (.lst ds, p.2)) fun d G' H' _ => ∀ v, RM C .frx G' H H' d v → Q v H' := by rw [Bool.and_true]; exact w
  refine w'.bind.imp fun ds G1 H1 ε1 F1 g1 w1 vs rvs => ?_
  obtain ⟨z, hz, w2⟩ := w1.val (size_ne ds)
  unfold sizeOk at hz
  split at hz
  · rename_i hl
    cases hz
    refine ⟨by rw [← rvs.len]; exact lim_size hl, fun q hq => ok_newL F1 rvs (fun G' H' v' F' g' r' => w2 G' H' F' (g'.weak fun _ z => z.elim) v' (RM.back (N := N) (g1.weak (M' := fun _ => True) fun _ _ => True.intro) r')) hq⟩
  · cases hz

/-! #### built-ins -/
/-- a built-in's arguments -/
def tB1 (C : Cn) (p : Bool) (f : Env → Res (List D × Env)) : TA := fun σ H Q => ∃ N G ε, Fr C N G H ε σ ∧ Post C N σ p G H (f ε) fun ds G' H' _ => ∀ vs, Paired (fun d v => Top C.K C.fa G' H' d v) ds vs → Q vs H'
theorem tb_one {m : Mo} (hm : m ≠ .frx) (ha : PE X a (tR C p m f)) (hs : starEach [a] X.env = (false, eval a X.env) :: starEach [] X.env) : PA X [a] (tB1 C p fun ε => (f ε).bind fun p => .ok ([p.1], p.2)) := by
  refine PA.imp (pa_cons ha pa_nil hs) fun σ H Q ⟨N, G, ε, F, w⟩ => ⟨N, G, ε, F, ?_⟩
  have w' : Post C N σ (p && true) G H ((f ε).bind fun p => .ok ([p.1], p.2)) fun ds G' H' _ => ∀ vs, Paired (fun d v => Top C.K C.fa G' H' d v) ds vs → Q vs H' := by rw [Bool.and_true]; exact w
  refine w'.bind.imp fun d G1 H1 ε1 F1 g1 w1 v rv => ?_
  exact w1.here F1 [v] (.cons (top_keep (C := C) (pb := true) hm (.inl rfl) F1 (Go.refl _ (Mx C σ true) _ _) rv) .nil)
theorem tb_two (ha : PE X a (tR C pa .esc f)) (hb : PE X b (tR C pb .esc g)) (hs : starEach [a, b] X.env = (false, eval a X.env) :: starEach [b] X.env) (hs2 : starEach [b] X.env = (false, eval b X.env) :: starEach [] X.env) :
    PA X [a, b] (tB1 C (pa && pb) fun ε => (f ε).bind fun p => (g p.2).bind fun q => .ok ([p.1, q.1], q.2)) := by
  refine PA.imp (pa_cons ha (pa_cons hb pa_nil hs2) hs) fun σ H Q ⟨N, G, ε, F, w⟩ => ⟨N, G, ε, F, ?_⟩
  refine w.bind.imp fun d G1 H1 ε1 F1 g1 w1 v rv => ⟨N, G1, ε1, F1, ?_⟩
  have w1' : Post C N σ (pb && true) G1 H1 ((g ε1).bind fun q => .ok ([d, q.1], q.2)) fun ds G' H' _ => ∀ vs, Paired (fun d v => Top C.K C.fa G' H' d v) ds vs → Q vs H' := by rw [Bool.and_true]; exact w1
  refine w1'.bind.imp fun e G2 H2 ε2 F2 g2 w2 u ru => ?_
  exact w2.here F2 [v, u] (.cons (Rp.top F2.sub (Rp.mono g2.ext rv)) (.cons (Rp.top F2.sub ru) .nil))
theorem tb_thr {c : Expr} {h : Env → Res (D × Env)} {pc : Bool} (ha : PE X a (tR C pa .esc f)) (hb : PE X b (tR C pb .esc g)) (hc : PE X c (tR C pc .esc h)) (hs : starEach [a, b, c] X.env = (false, eval a X.env) :: starEach [b, c] X.env) (hs2 : starEach [b, c] X.env = (false, eval b X.env) :: starEach [c] X.env) (hs3 : starEach [c] X.env = (false, eval c X.env) :: starEach [] X.env) :
    PA X [a, b, c] (tB1 C (pa && (pb && pc)) fun ε => (f ε).bind fun p => (g p.2).bind fun q => (h q.2).bind fun r => .ok ([p.1, q.1, r.1], r.2)) := by
  refine PA.imp (pa_cons ha (pa_cons hb (pa_cons hc pa_nil hs3) hs2) hs) fun σ H Q ⟨N, G, ε, F, w⟩ => ⟨N, G, ε, F, ?_⟩
  refine w.bind.imp fun d G1 H1 ε1 F1 g1 w1 v rv => ⟨N, G1, ε1, F1, ?_⟩
  refine w1.bind.imp fun e G2 H2 ε2 F2 g2 w2 u ru => ⟨N, G2, ε2, F2, ?_⟩
  have w2' : Post C N σ (pc && true) G2 H2 ((h ε2).bind fun r => .ok ([d, e, r.1], r.2)) fun ds G' H' _ => ∀ vs, Paired (fun d v => Top C.K C.fa G' H' d v) ds vs → Q vs H' := by rw [Bool.and_true]; exact w2
  refine w2'.bind.imp fun k G3 H3 ε3 F3 g3 w3 z rz => ?_
  exact w3.here F3 [v, u, z] (.cons (Rp.top F3.sub (Rp.mono g3.ext (Rp.mono g2.ext rv))) (.cons (Rp.top F3.sub (Rp.mono g3.ext ru)) (.cons (Rp.top F3.sub rz) .nil)))
/-- a built-in's rule over data -/
def CrOk (C : Cn) (m : Mo) (r : List V → Hp → VK → Prop) (pr : List D → Res D) : Prop := ∀ (N : En) (G H : Hp) (ε : Env) (σ : L2.St) (ds : List D) (z : D) (vs : List V) (Q : VK), Fr C N G H ε σ → Paired (fun d v => Top C.K C.fa G H d v) ds vs → pr ds = .ok z →
  (∀ G' H' v, Fr C N G' H' ε σ → Go C.tabs (fun _ => False) G H G' H' → RM C m G' H H' z v → Q v H') → r vs H Q
theorem tr_cb {m : Mo} {r : List V → Hp → VK → Prop} {pr : List D → Res D} {fl : Env → Res (List D × Env)} (hr : CrOk C m r pr) (hne : ∀ ds c x, pr ds ≠ .er c x) {σ : L2.St} {H : Hp} {Q : VK}
    (w : tR C p m (fun ε => (fl ε).bind fun q => (pr q.1).bind fun d => .ok (d, q.2)) σ H Q) : tCB r (tB1 C p fl) σ H Q := by
  obtain ⟨N, G, ε, F, w⟩ := w
  refine ⟨N, G, ε, F, ?_⟩
  have w' : Post C N σ (p && true) G H ((fl ε).bind fun q => (pr q.1).bind fun d => .ok (d, q.2)) fun d G' H' _ => ∀ v, RM C m G' H H' d v → Q v H' := by rw [Bool.and_true]; exact w
  refine w'.bind.imp fun ds G1 H1 ε1 F1 g1 w1 vs rvs => ?_
  obtain ⟨z, hz, w2⟩ := w1.val (hne ds)
  exact hr N G1 H1 ε1 σ ds z vs Q F1 rvs hz fun G' H' v' F' g' r' => w2 G' H' F' (g'.weak fun _ z => z.elim) v' (RM.back (N := N) (g1.weak (M' := fun _ => True) fun _ _ => True.intro) r')
end
end Ev
/-! ### built-ins on data -/
namespace Ev
open PySem PySem.Spec PyProof.Rows L2
section
variable {C : Cn} {X : Cx}
/-! #### whole numbers -/
theorem ints_inv : ∀ {ds : List D} {l : List Int}, intsD ds = .ok l → ds = l.map D.int
  | [], l, h => by cases h; rfl
  | .int i :: r, l, h => by
    simp only [intsD] at h
    cases hr : intsD r with
    | ok m => rw [hr] at h; cases h; rw [ints_inv hr]; rfl
    | no => rw [hr] at h; cases h
    | er c x => rw [hr] at h; cases h
  | .non :: r, l, h => by cases h
  | .bl _ :: r, l, h => by cases h
  | .str _ :: r, l, h => by cases h
  | .tup _ :: r, l, h => by cases h
  | .lst _ :: r, l, h => by cases h
  | .rol _ :: r, l, h => by cases h
  | .dct _ :: r, l, h => by cases h
  | .dtt _ :: r, l, h => by cases h
  | .fn _ :: r, l, h => by cases h
  | .obj _ _ :: r, l, h => by cases h
theorem ints_map (l : List Int) : intsD (l.map D.int) = .ok l := by
  induction l with
  | nil => rfl
  | cons i r ih =>
    show (intsD (r.map D.int)).bind _ = _
    rw [ih] <;> rfl
theorem ints_ne : ∀ (ds : List D) c x, intsD ds ≠ .er c x
  | [], _, _ => fun h => by cases h
  | .int i :: r, c, x => fun h => by
    simp only [intsD] at h
    cases hr : intsD r with
    | ok m => rw [hr] at h; cases h
    | no => rw [hr] at h; cases h
    | er c x => exact ints_ne r _ _ hr
  | .non :: r, _, _ => fun h => by cases h
  | .bl _ :: r, _, _ => fun h => by cases h
  | .str _ :: r, _, _ => fun h => by cases h
  | .tup _ :: r, _, _ => fun h => by cases h
  | .lst _ :: r, _, _ => fun h => by cases h
  | .rol _ :: r, _, _ => fun h => by cases h
  | .dct _ :: r, _, _ => fun h => by cases h
  | .dtt _ :: r, _, _ => fun h => by cases h
  | .fn _ :: r, _, _ => fun h => by cases h
  | .obj _ _ :: r, _, _ => fun h => by cases h
theorem pairs_inv : ∀ {ds : List D} {l : List (Int × Int)}, pairsI ds = .ok l → ds = l.map pairD := by
  intro ds
  induction ds with
  | nil => intro l h; cases h; rfl
  | cons d r ih =>
    intro l h
    unfold pairsI at h
    split at h
    · cases h; contradiction
    · rename_i i j r' e
      cases e
      cases hr : pairsI r with
      | ok m => rw [hr] at h; cases h; rw [ih hr]; rfl
      | no => rw [hr] at h; cases h
      | er c x => rw [hr] at h; cases h
    · cases h
theorem pairs_ne : ∀ (ds : List D) c x, pairsI ds ≠ .er c x := by
  intro ds
  induction ds with
  | nil => intro c x h; cases h
  | cons d r ih =>
    intro c x h
    unfold pairsI at h
    split at h
    · cases h
    · rename_i i j r' e
      cases e
      cases hr : pairsI r with
      | ok m => rw [hr] at h; cases h
      | no => rw [hr] at h; cases h
      | er c x => exact ih _ _ hr
    · cases h
theorem perm_insI (i : Int) : ∀ l : List Int, (insI i l).Perm (i :: l)
  | [] => List.Perm.refl _
  | j :: r => by
    unfold insI
    split
    · exact List.Perm.refl _
    · exact ((perm_insI i r).cons j).trans (List.Perm.swap i j r)
theorem perm_sortI : ∀ l : List Int, (sortI l).Perm l
  | [] => List.Perm.refl _
  | i :: r => (perm_insI i _).trans ((perm_sortI r).cons i)
theorem sorted_insI (i : Int) : ∀ l : List Int, l.Pairwise (· ≤ ·) → (insI i l).Pairwise (· ≤ ·)
  | [], _ => List.pairwise_singleton _ _
  | j :: r, h => by
    rw [List.pairwise_cons] at h
    unfold insI
    split
    · rename_i hij
      refine List.pairwise_cons.mpr ⟨fun k hk => ?_, List.pairwise_cons.mpr h⟩
      rcases List.mem_cons.mp hk with e | e
      · rw [e]; exact hij
      · exact Int.le_trans hij (h.1 k e)
    · rename_i hij
      refine List.pairwise_cons.mpr ⟨fun k hk => ?_, sorted_insI i r h.2⟩
      rcases List.mem_cons.mp ((perm_insI i r).mem_iff.mp hk) with e | e
      · rw [e]; omega
      · exact h.1 k e
theorem sorted_sortI : ∀ l : List Int, (sortI l).Pairwise (· ≤ ·)
  | [] => List.Pairwise.nil
  | i :: r => sorted_insI i _ (sorted_sortI r)
theorem sorted_uniq : ∀ {l m : List Int}, l.Pairwise (· ≤ ·) → m.Pairwise (· ≤ ·) → l.Perm m → l = m
  | [], m, _, _, p => (List.Perm.eq_nil p.symm).symm
  | i :: l, [], _, _, p => absurd (List.Perm.eq_nil p) (by simp)
  | i :: l, j :: m, h1, h2, p => by
    rw [List.pairwise_cons] at h1 h2
    have a1 : i ≤ j := by
      rcases List.mem_cons.mp (p.symm.mem_iff.mp (List.mem_cons_self (a := j) (l := m))) with e | e
      · omega
      · exact h1.1 j e
    have a2 : j ≤ i := by
      rcases List.mem_cons.mp (p.mem_iff.mp (List.mem_cons_self (a := i) (l := l))) with e | e
      · omega
      · exact h2.1 i e
    have e : i = j := by omega
    subst e
    rw [sorted_uniq h1.2 h2.2 (List.Perm.cons_inv p)]
theorem sortI_of {l m : List Int} (p : m.Perm l) (s : m.Pairwise (· ≤ ·)) : m = sortI l := sorted_uniq s (sorted_sortI l) (p.trans (perm_sortI l).symm)
/-! pairs -/
theorem leP_iff {p q : Int × Int} : leP p q = true ↔ p.1 < q.1 ∨ (p.1 = q.1 ∧ p.2 ≤ q.2) := by
  unfold leP
  simp only [Bool.or_eq_true, Bool.and_eq_true, decide_eq_true_eq, beq_iff_eq]
theorem perm_insP (i : Int × Int) : ∀ l : List (Int × Int), (insP i l).Perm (i :: l)
  | [] => List.Perm.refl _
  | j :: r => by
    unfold insP
    split
    · exact List.Perm.refl _
    · exact ((perm_insP i r).cons j).trans (List.Perm.swap i j r)
theorem perm_sortP : ∀ l : List (Int × Int), (sortP l).Perm l
  | [] => List.Perm.refl _
  | i :: r => (perm_insP i _).trans ((perm_sortP r).cons i)
abbrev SrP (l : List (Int × Int)) : Prop := l.Pairwise fun p q => leP p q = true
theorem leP_trans {p q r : Int × Int} (h : leP p q = true) (k : leP q r = true) : leP p r = true := by
  rw [leP_iff] at *
  omega
theorem leP_total {p q : Int × Int} (h : ¬ leP p q = true) : leP q p = true := by
  rw [leP_iff] at *
  omega
theorem leP_anti {p q : Int × Int} (h : leP p q = true) (k : leP q p = true) : p = q := by
  rw [leP_iff] at *
  exact Prod.ext (by omega) (by omega)
theorem leP_refl (p : Int × Int) : leP p p = true := by
  rw [leP_iff]; omega
theorem sorted_insP (i : Int × Int) : ∀ l : List (Int × Int), SrP l → SrP (insP i l)
  | [], _ => List.pairwise_singleton _ _
  | j :: r, h => by
    have h' := List.pairwise_cons.mp h
    unfold insP
    split
    · rename_i hij
      refine List.pairwise_cons.mpr ⟨fun k hk => ?_, h⟩
      rcases List.mem_cons.mp hk with e | e
      · rw [e]; exact hij
      · exact leP_trans hij (h'.1 k e)
    · rename_i hij
      refine List.pairwise_cons.mpr ⟨fun k hk => ?_, sorted_insP i r h'.2⟩
      rcases List.mem_cons.mp ((perm_insP i r).mem_iff.mp hk) with e | e
      · rw [e]; exact leP_total hij
      · exact h'.1 k e
theorem sorted_sortP : ∀ l : List (Int × Int), SrP (sortP l)
  | [] => List.Pairwise.nil
  | i :: r => sorted_insP i _ (sorted_sortP r)
theorem sorted_uniqP : ∀ {l m : List (Int × Int)}, SrP l → SrP m → l.Perm m → l = m
  | [], m, _, _, p => (List.Perm.eq_nil p.symm).symm
  | i :: l, [], _, _, p => absurd (List.Perm.eq_nil p) (by simp)
  | i :: l, j :: m, h1, h2, p => by
    have h1' := List.pairwise_cons.mp h1
    have h2' := List.pairwise_cons.mp h2
    have a1 : leP i j = true := by
      rcases List.mem_cons.mp (p.symm.mem_iff.mp (List.mem_cons_self (a := j) (l := m))) with e | e
      · rw [e]; exact leP_refl _
      · exact h1'.1 j e
    have a2 : leP j i = true := by
      rcases List.mem_cons.mp (p.mem_iff.mp (List.mem_cons_self (a := i) (l := l))) with e | e
      · rw [e]; exact leP_refl _
      · exact h2'.1 i e
    have e : i = j := leP_anti a1 a2
    subst e
    rw [sorted_uniqP h1'.2 h2'.2 (List.Perm.cons_inv p)]
/-- the pair that stands behind a value -/
def kOf (H : Hp) : V → Int × Int
  | .ref t => match H t with
    | some (.frz _ (.tup [.int i, .int j])) => (i, j)
    | _ => (0, 0)
  | _ => (0, 0)
theorem pairs_V {K : PySem.W.Frag} {fa : Nat → Option Addr} {G H : Hp} (sub : Sub G H) : ∀ {l : List (Int × Int)} {xs : List V}, RpL K fa G (l.map pairD) xs → xs.map (kOf H) = l ∧ PT.PrV G xs (kOf H)
  | [], xs, h => by rw [show xs = [] from h]; exact ⟨rfl, fun x m => absurd m (by simp)⟩
  | (i, j) :: l, _, ⟨v, r, e, h1, h2⟩ => by
    subst e
    obtain ⟨a, ys, rfl, ⟨ob, gd, g1⟩, v1, r1, e1, n1, v2, r2, e2, n2, n3⟩ := h1
    obtain rfl : v1 = .int i := n1
    obtain rfl : v2 = .int j := n2
    obtain rfl : r2 = [] := n3
    subst e2 e1
    have hk : kOf H (.ref a) = (i, j) := by
      show (match H a with
        | some (.frz _ (.tup [.int i, .int j])) => (i, j)
        | _ => (0, 0)) = (i, j)
      rw [sub _ _ g1]
    obtain ⟨m1, m2⟩ := pairs_V sub h2
    refine ⟨by rw [List.map_cons, hk, m1], fun x m => ?_⟩
    rcases List.mem_cons.mp m with e | e
    · subst e
      exact ⟨a, rfl, ob, gd, by rw [hk]; exact g1⟩
    · exact m2 x e
theorem V_pairs {K : PySem.W.Frag} {fa : Nat → Option Addr} {G H : Hp} : ∀ {ys : List V}, PT.PrV G ys (kOf H) → RpL K fa G ((ys.map (kOf H)).map pairD) ys
  | [], _ => rfl
  | y :: r, h => by
    obtain ⟨t, e, g⟩ := h y List.mem_cons_self
    exact ⟨y, r, rfl, ⟨t, _, e, g, _, _, rfl, rfl, _, _, rfl, rfl, rfl⟩, V_pairs fun x m => h x (List.mem_cons_of_mem _ m)⟩

/-! #### the rules -/
def rLenA (K : PySem.W.Frag) : List V → Hp → VK → Prop := fun xs H Q => (∃ p ys, xs = [.ref p] ∧ (SqL K H p ys ∨ SqT K H p ys) ∧ Q (.int ys.length) H) ∨ (∃ a kvs, xs = [V.ref a] ∧ H a = some (.dK kvs) ∧ Q (.int kvs.length) H)
theorem cr_lenA : CallR X (.builtin "len") (rLenA X.K) := CallR.or call_len_seq call_lenD
theorem RpK.len {K : PySem.W.Frag} {fa : Nat → Option Addr} {G : Hp} : ∀ {ds : List (D × D)} {vs : List (Key × V)}, RpK K fa G ds vs → ds.length = vs.length
  | [], vs, h => by rw [show vs = [] from h] <;> rfl
  | (_, _) :: _, _, ⟨q, v, r, e, _, _, h⟩ => by rw [e, List.length_cons, List.length_cons, RpK.len h]
theorem one_of {G H : Hp} {d : D} {vs : List V} (h : Paired (fun d v => Top C.K C.fa G H d v) [d] vs) : ∃ v, vs = [v] ∧ Top C.K C.fa G H d v := by
  cases h with
  | cons a b => cases b; exact ⟨_, rfl, a⟩
theorem two_of {G H : Hp} {d e : D} {vs : List V} (h : Paired (fun d v => Top C.K C.fa G H d v) [d, e] vs) : ∃ v u, vs = [v, u] ∧ Top C.K C.fa G H d v ∧ Top C.K C.fa G H e u := by
  cases h with
  | cons a b =>
    obtain ⟨u, rfl, h2⟩ := one_of b
    exact ⟨_, u, rfl, a, h2⟩
theorem ok_len : CrOk C .esc (rLenA C.K) (priD .len) := by
  intro N G H ε σ ds z vs Q F hv h q
  match ds, h with
  | [.tup ds], h =>
    obtain ⟨v, rfl, hd⟩ := one_of hv
    obtain ⟨a, xs, rfl, h1, h2⟩ := hd
    cases h
    refine .inl ⟨a, xs, rfl, .inr (h1.mono F.sub).sq, ?_⟩
    rw [← h2.len]
    exact ok_ret (z := .int _) F rfl rfl q
  | [.lst ds], h =>
    obtain ⟨v, rfl, hd⟩ := one_of hv
    obtain ⟨a, xs, rfl, h1, h2⟩ := hd
    cases h
    refine .inl ⟨a, xs, rfl, .inl (SqL.of h1), ?_⟩
    rw [← h2.len]
    exact ok_ret (z := .int _) F rfl rfl q
  | [.rol ds], h =>
    obtain ⟨v, rfl, hd⟩ := one_of hv
    obtain ⟨a, xs, rfl, h1, h2⟩ := hd
    cases h
    refine .inl ⟨a, xs, rfl, .inl (F.sub.l h1), ?_⟩
    rw [← h2.len]
    exact ok_ret (z := .int _) F rfl rfl q
  | [.dct ds], h =>
    obtain ⟨v, rfl, hd⟩ := one_of hv
    obtain ⟨a, rfl, hd⟩ := hd
    cases h
    obtain ⟨ks, h1, h2⟩ := hd
    refine .inr ⟨a, ks, rfl, h1, ?_⟩
    rw [← h2.len]
    exact ok_ret (z := .int _) F rfl rfl q
  | [], h => cases h
  | [.non], h => cases h
  | [.bl _], h => cases h
  | [.int _], h => cases h
  | [.str _], h => cases h
  | [.fn _], h => cases h
  | [.obj _ _], h => cases h
  | [.dtt _], h => cases h
  | _ :: _ :: _, h => simp [priD] at h
def rListA (K : PySem.W.Frag) : List V → Hp → VK → Prop := fun xs H Q => ∃ p ys, xs = [.ref p] ∧ (SqL K H p ys ∨ SqT K H p ys) ∧ ∀ l, H l = none → Q (.ref l) (upd H l (.lst ys))
theorem cr_listA : CallR X (.type "list") (rListA X.K) := call_list_of
theorem ok_list : CrOk C .frx (rListA C.K) (priD .list) := by
  intro N G H ε σ ds z vs Q F hv h q
  match ds, h with
  | [.tup ds], h =>
    obtain ⟨v, rfl, hd⟩ := one_of hv
    obtain ⟨a, xs, rfl, h1, h2⟩ := hd
    cases h
    exact ⟨a, xs, rfl, .inr (h1.mono F.sub).sq, fun p hp => ok_newL F h2 q hp⟩
  | [.lst ds], h =>
    obtain ⟨v, rfl, hd⟩ := one_of hv
    obtain ⟨a, xs, rfl, h1, h2⟩ := hd
    cases h
    exact ⟨a, xs, rfl, .inl (SqL.of h1), fun p hp => ok_newL F h2 q hp⟩
  | [], h => cases h
  | [.non], h => cases h
  | [.bl _], h => cases h
  | [.int _], h => cases h
  | [.str _], h => cases h
  | [.rol _], h => cases h
  | [.dct _], h => cases h
  | [.fn _], h => cases h
  | [.obj _ _], h => cases h
  | [.dtt _], h => cases h
  | _ :: _ :: _, h => simp [priD] at h
def rTupleA (K : PySem.W.Frag) : List V → Hp → VK → Prop := fun xs H Q => ∃ p ys, xs = [.ref p] ∧ ((SqL K H p ys ∧ PT.NewT H ys Q) ∨ (SqT K H p ys ∧ Q (.ref p) H))
theorem cr_tupleA : CallR X (.type "tuple") (rTupleA X.K) := PT.cr_tupP
theorem ok_tuple : CrOk C .esc (rTupleA C.K) (priD .tuple) := by
  intro N G H ε σ ds z vs Q F hv h q
  match ds, h with
  | [.tup ds], h =>
    obtain ⟨v, rfl, hd⟩ := one_of hv
    obtain ⟨a, xs, rfl, h1, h2⟩ := hd
    cases h
    exact ⟨a, xs, rfl, .inr ⟨(h1.mono F.sub).sq, ok_ret (z := .tup ds) F ⟨a, xs, rfl, h1, h2⟩ rfl q⟩⟩
  | [.lst ds], h =>
    obtain ⟨v, rfl, hd⟩ := one_of hv
    obtain ⟨a, xs, rfl, h1, h2⟩ := hd
    cases h
    exact ⟨a, xs, rfl, .inl ⟨SqL.of h1, ok_newT F h2 q⟩⟩
  | [], h => cases h
  | [.non], h => cases h
  | [.bl _], h => cases h
  | [.int _], h => cases h
  | [.str _], h => cases h
  | [.rol _], h => cases h
  | [.dct _], h => cases h
  | [.fn _], h => cases h
  | [.obj _ _], h => cases h
  | [.dtt _], h => cases h
  | _ :: _ :: _, h => simp [priD] at h
def rIntA : List V → Hp → VK → Prop := fun xs H Q => (∃ i, xs = [.int i] ∧ Q (.int i) H) ∨ ∃ k, xs = [.bl k] ∧ Q (.int (if k then 1 else 0)) H
theorem cr_intA : CallR X (.type "int") rIntA := call_int1
theorem ok_int : CrOk C .esc rIntA (priD .int) := by
  intro N G H ε σ ds z vs Q F hv h q
  match ds, h with
  | [.int i], h =>
    obtain ⟨v, rfl, hd⟩ := one_of hv
    obtain rfl : v = .int i := hd
    cases h
    exact .inl ⟨i, rfl, ok_ret (z := .int i) F rfl rfl q⟩
  | [.bl b], h =>
    obtain ⟨v, rfl, hd⟩ := one_of hv
    obtain rfl : v = .bl b := hd
    cases h
    exact .inr ⟨b, rfl, ok_ret (z := .int (if b then 1 else 0)) F rfl rfl q⟩
  | [], h => cases h
  | [.non], h => cases h
  | [.tup _], h => cases h
  | [.lst _], h => cases h
  | [.str _], h => cases h
  | [.rol _], h => cases h
  | [.dct _], h => cases h
  | [.fn _], h => cases h
  | [.obj _ _], h => cases h
  | [.dtt _], h => cases h
  | _ :: _ :: _, h => simp [priD] at h
def rMaxA (K : PySem.W.Frag) : List V → Hp → VK → Prop := fun xs H Q => (∃ i j, xs = [.int i, .int j] ∧ Q (.int (if j > i then j else i)) H) ∨ rMax K xs H Q
def rMinA (K : PySem.W.Frag) : List V → Hp → VK → Prop := fun xs H Q => (∃ i j, xs = [.int i, .int j] ∧ Q (.int (if j < i then j else i)) H) ∨ rMin K xs H Q
theorem cr_maxA (hc : X.calm = true) : CallR X (.builtin "max") (rMaxA X.K) := CallR.or (call_max2 hc) (cr_max hc)
theorem cr_minA (hc : X.calm = true) : CallR X (.builtin "min") (rMinA X.K) := CallR.or (call_min2 hc) (cr_min hc)
theorem fold_max : ∀ (r : List Int) (i : Int), r.foldl (fun a b => if b > a then b else a) i ∈ i :: r ∧ ∀ y ∈ i :: r, y ≤ r.foldl (fun a b => if b > a then b else a) i
  | [], i => ⟨List.mem_singleton.mpr rfl, fun y hy => by rw [List.mem_singleton.mp hy]; exact Int.le_refl _⟩
  | j :: r, i => by
    obtain ⟨h1, h2⟩ := fold_max r (if j > i then j else i)
    rw [List.foldl_cons]
    have a0 := h2 _ List.mem_cons_self
    refine ⟨?_, fun y hy => ?_⟩
    · rcases List.mem_cons.mp h1 with e | e
      · rw [e]
        split
        · exact List.mem_cons_of_mem _ List.mem_cons_self
        · exact List.mem_cons_self
      · exact List.mem_cons_of_mem _ (List.mem_cons_of_mem _ e)
    · rcases List.mem_cons.mp hy with e | e
      · subst e
        exact Int.le_trans (show y ≤ if j > y then j else y by split <;> omega) a0
      · rcases List.mem_cons.mp e with e | e
        · subst e
          exact Int.le_trans (show y ≤ if y > i then y else i by split <;> omega) a0
        · exact h2 y (List.mem_cons_of_mem _ e)
theorem fold_min : ∀ (r : List Int) (i : Int), r.foldl (fun a b => if b < a then b else a) i ∈ i :: r ∧ ∀ y ∈ i :: r, r.foldl (fun a b => if b < a then b else a) i ≤ y
  | [], i => ⟨List.mem_singleton.mpr rfl, fun y hy => by rw [List.mem_singleton.mp hy]; exact Int.le_refl _⟩
  | j :: r, i => by
    obtain ⟨h1, h2⟩ := fold_min r (if j < i then j else i)
    rw [List.foldl_cons]
    have a0 := h2 _ List.mem_cons_self
    refine ⟨?_, fun y hy => ?_⟩
    · rcases List.mem_cons.mp h1 with e | e
      · rw [e]
        split
        · exact List.mem_cons_of_mem _ List.mem_cons_self
        · exact List.mem_cons_self
      · exact List.mem_cons_of_mem _ (List.mem_cons_of_mem _ e)
    · rcases List.mem_cons.mp hy with e | e
      · subst e
        exact Int.le_trans a0 (show (if j < y then j else y) ≤ y by split <;> omega)
      · rcases List.mem_cons.mp e with e | e
        · subst e
          exact Int.le_trans a0 (show (if y < i then y else i) ≤ y by split <;> omega)
        · exact h2 y (List.mem_cons_of_mem _ e)
theorem ok_maxL {m : List Int → Res Int} {g : Int → Int → Int} (le : Int → Int → Prop) (anti : ∀ a b, le a b → le b a → a = b) (h0 : m [] = .no) (h1 : ∀ i r, m (i :: r) = .ok (r.foldl g i)) (hf : ∀ r i, r.foldl g i ∈ i :: r ∧ ∀ y ∈ i :: r, le y (r.foldl g i))
    {N : En} {G H : Hp} {ε : Env} {σ : L2.St} {ds : List D} {z : D} {vs : List V} {Q : VK} (F : Fr C N G H ε σ) (hv : Paired (fun d v => Top C.K C.fa G H d v) [.lst ds] vs) (h : ((intsD ds).bind fun l => (m l).bind fun i => .ok (.int i)) = .ok z)
    (q : ∀ G' H' v, Fr C N G' H' ε σ → Go C.tabs (fun _ => False) G H G' H' → RM C .esc G' H H' z v → Q v H') :
    ∃ (a : Addr) (ns : List Int), vs = [V.ref a] ∧ SqL C.K H a (ns.map V.int) ∧ 0 < ns.length ∧ ∀ k, k ∈ ns → (∀ y, y ∈ ns → le y k) → Q (.int k) H := by
  obtain ⟨v, rfl, a, xs, rfl, h3, h4⟩ := one_of hv
  cases hl : intsD ds with
  | no => rw [hl] at h; cases h
  | er c x => rw [hl] at h; cases h
  | ok l =>
    rw [hl] at h
    have e := ints_inv hl
    subst e
    have e2 := h4.int
    subst e2
    cases l with
    | nil => simp only [Res.bind_ok, h0] at h; cases h
    | cons i r =>
      simp only [Res.bind_ok, h1] at h
      cases h
      obtain ⟨f1, f2⟩ := hf r i
      refine ⟨a, i :: r, rfl, SqL.of h3, Nat.succ_pos _, fun k hk hle => ?_⟩
      have e : k = r.foldl g i := anti _ _ (f2 k hk) (hle _ f1)
      rw [e]
      exact ok_ret (z := .int _) F rfl rfl q
theorem ok_max : CrOk C .esc (rMaxA C.K) (priD .max) := by
  intro N G H ε σ ds z vs Q F hv h q
  match ds, h with
  | [a, b], h =>
    obtain ⟨v, u, rfl, h1, h2⟩ := two_of hv
    cases a with
    | int i =>
      cases b with
      | int j =>
        obtain rfl : v = .int i := h1
        obtain rfl : u = .int j := h2
        cases h
        exact .inl ⟨i, j, rfl, ok_ret (z := .int _) F rfl rfl q⟩
      | _ => simp [priD] at h
    | _ => simp [priD] at h
  | [.lst ds], h => exact .inr (ok_maxL (m := maxI) (· ≤ ·) (fun a b h k => by omega) rfl (fun _ _ => rfl) fold_max F hv h q)
  | [], h => cases h
  | [.non], h => cases h
  | [.bl _], h => cases h
  | [.int _], h => cases h
  | [.str _], h => cases h
  | [.tup _], h => cases h
  | [.rol _], h => cases h
  | [.dct _], h => cases h
  | [.fn _], h => cases h
  | [.obj _ _], h => cases h
  | [.dtt _], h => cases h
  | a :: b :: c :: d, h => simp [priD] at h
theorem ok_min : CrOk C .esc (rMinA C.K) (priD .min) := by
  intro N G H ε σ ds z vs Q F hv h q
  match ds, h with
  | [a, b], h =>
    obtain ⟨v, u, rfl, h1, h2⟩ := two_of hv
    cases a with
    | int i =>
      cases b with
      | int j =>
        obtain rfl : v = .int i := h1
        obtain rfl : u = .int j := h2
        cases h
        exact .inl ⟨i, j, rfl, ok_ret (z := .int _) F rfl rfl q⟩
      | _ => simp [priD] at h
    | _ => simp [priD] at h
  | [.lst ds], h => exact .inr (ok_maxL (m := minI) (fun a b => b ≤ a) (fun a b h k => by omega) rfl (fun _ _ => rfl) fold_min F hv h q)
  | [], h => cases h
  | [.non], h => cases h
  | [.bl _], h => cases h
  | [.int _], h => cases h
  | [.str _], h => cases h
  | [.tup _], h => cases h
  | [.rol _], h => cases h
  | [.dct _], h => cases h
  | [.fn _], h => cases h
  | [.obj _ _], h => cases h
  | [.dtt _], h => cases h
  | a :: b :: c :: d, h => simp [priD] at h
def rSumA (K : PySem.W.Frag) : List V → Hp → VK → Prop := rSum K
theorem ok_sum : CrOk C .esc (rSumA C.K) (priD .sum) := by
  intro N G H ε σ ds z vs Q F hv h q
  match ds, h with
  | [.lst ds], h =>
    obtain ⟨v, rfl, a, xs, rfl, h3, h4⟩ := one_of hv
    have h' : ((intsD ds).bind fun l => .ok (.int l.sum)) = .ok z := h
    cases hl : intsD ds with
    | no => rw [hl] at h'; cases h'
    | er c x => rw [hl] at h'; cases h'
    | ok l =>
      rw [hl] at h'
      cases h'
      have e := ints_inv hl
      subst e
      have e2 := h4.int
      subst e2
      exact ⟨a, l, rfl, SqL.of h3, ok_ret (z := .int _) F rfl rfl q⟩
  | [], h => cases h
  | [.non], h => cases h
  | [.bl _], h => cases h
  | [.int _], h => cases h
  | [.str _], h => cases h
  | [.tup _], h => cases h
  | [.rol _], h => cases h
  | [.dct _], h => cases h
  | [.fn _], h => cases h
  | [.obj _ _], h => cases h
  | [.dtt _], h => cases h
  | _ :: _ :: _, h => simp [priD] at h
/-! sorted -/
def rSrtA (K : PySem.W.Frag) : List V → Hp → VK → Prop := fun xs H Q => rSortedI K xs H Q ∨ PT.rSrtL K xs H Q ∨ rSortedIT K xs H Q ∨ PT.rSrtT K xs H Q ∨ (∃ (a : Addr) (kvs : List (Key × V)) (ks : List Int), xs = [.ref a] ∧ Rd H a (.dK kvs) ∧ kvs.map (·.1) = ks.map Sum.inl ∧ ks.length < 64 ∧ ∀ (ys : List Int) (p : Addr), ys.Perm ks → ys.Pairwise (· ≤ ·) → H p = none → Q (.ref p) (upd H p (.lst (ys.map V.int))))
theorem cr_srtA (hc : X.calm = true) : CallR X (.builtin "sorted") (rSrtA X.K) := CallR.or cr_sortedI (CallR.or PT.cr_srtL (CallR.or cr_sortedIT (CallR.or PT.cr_srtT (call_sortedDI hc))))
theorem rpk_keys {K : PySem.W.Frag} {fa : Nat → Option Addr} {G : Hp} : ∀ {l : List (D × D)} {kvs : List (Key × V)} {ns : List Int}, RpK K fa G l kvs → l.map (·.1) = ns.map D.int → kvs.map (·.1) = ns.map Sum.inl
  | [], kvs, [], h, _ => by
    have h : kvs = [] := h
    subst h
    rfl
  | [], _, _ :: _, _, e => by cases e
  | _ :: _, _, [], _, e => by cases e
  | (k, d) :: l, _, n :: ns, ⟨q, v, r, e1, e2, _, h⟩, e => by
    subst e1
    rw [List.map_cons, List.map_cons] at e
    injection e with e3 e4
    have e3 : k = .int n := e3
    rw [List.map_cons, List.map_cons, rpk_keys h e4]
    congr 1
    rw [e2] at e3
    cases q with
    | inl i =>
      have e3 : D.int i = D.int n := e3
      injection e3 with e3
      rw [e3]
    | inr s =>
      have e3 : D.str s = D.int n := e3
      cases e3
theorem srt_keys {G H : Hp} (sub : Sub G H) {l : List (Int × Int)} {xs ys : List V} (hx : RpL C.K C.fa G (l.map pairD) xs) (hs : SrtO.Srtd (ltP (kOf H)) ys) (hb : SrtO.Stb (ltP (kOf H)) ys xs) : RpL C.K C.fa G ((sortP l).map pairD) ys := by
  obtain ⟨m1, m2⟩ := pairs_V sub hx
  have hy : PT.PrV G ys (kOf H) := fun x m => m2 x (hb.perm.mem_iff.mp m)
  have p : (ys.map (kOf H)).Perm l := by
    rw [← m1]
    exact hb.perm.map _
  have s : SrP (ys.map (kOf H)) := by
    refine List.pairwise_map.mpr (hs.imp fun {a b} h => ?_)
    have h' : SrtO.lexB (kOf H b) (kOf H a) = false := h
    have := SrtO.lexB_no.mp h'
    rw [leP_iff]
    omega
  have e : ys.map (kOf H) = sortP l := sorted_uniqP s (sorted_sortP l) (p.trans (perm_sortP l).symm)
  have k := V_pairs (K := C.K) (fa := C.fa) hy
  rw [e] at k
  exact k
theorem sortD_cases {ds : List D} {z : D} (h : sortD ds = .ok z) : (∃ l, ds = l.map D.int ∧ z = .lst ((sortI l).map .int)) ∨ ∃ l, ds = l.map pairD ∧ z = .lst ((sortP l).map pairD) := by
  unfold sortD at h
  split at h
  · rename_i l hl
    cases h
    exact .inl ⟨l, ints_inv hl, rfl⟩
  · cases hl : pairsI ds with
    | no => rw [hl] at h; cases h
    | er c x => rw [hl] at h; cases h
    | ok l =>
      rw [hl] at h
      cases h
      exact .inr ⟨l, pairs_inv hl, rfl⟩
theorem ok_sorted : CrOk C .frx (rSrtA C.K) (priD .sorted) := by
  intro N G H ε σ ds z vs Q F hv h q
  match ds, h with
  | [.lst ds], h =>
    obtain ⟨v, rfl, a, xs, rfl, h3, h4⟩ := one_of hv
    rcases sortD_cases h with ⟨l, rfl, rfl⟩ | ⟨l, rfl, rfl⟩
    · have e2 := h4.int
      subst e2
      refine .inl ⟨a, l, rfl, SqL.of h3, fun ns' p p1 p2 hp => ?_⟩
      rw [sortI_of p1 p2]
      exact ok_newL F (RpL.ofInt _) q hp
    · refine .inr (.inl ⟨a, xs, kOf H, rfl, SqL.of h3, fun x hx => ?_, fun ys p p1 p2 hp => ok_newL F (srt_keys F.sub h4 p1 p2) q hp⟩)
      obtain ⟨t, e, g⟩ := (pairs_V F.sub h4).2 x hx
      exact ⟨t, e, g.mono F.sub⟩
  | [.tup ds], h =>
    obtain ⟨v, rfl, a, xs, rfl, h3, h4⟩ := one_of hv
    rcases sortD_cases h with ⟨l, rfl, rfl⟩ | ⟨l, rfl, rfl⟩
    · have e2 := h4.int
      subst e2
      refine .inr (.inr (.inl ⟨a, l, rfl, (h3.mono F.sub).sq, fun ns' p p1 p2 hp => ?_⟩))
      rw [sortI_of p1 p2]
      exact ok_newL F (RpL.ofInt _) q hp
    · refine .inr (.inr (.inr (.inl ⟨a, xs, kOf H, rfl, (h3.mono F.sub).sq, fun x hx => ?_, fun ys p p1 p2 hp => ok_newL F (srt_keys F.sub h4 p1 p2) q hp⟩)))
      obtain ⟨t, e, g⟩ := (pairs_V F.sub h4).2 x hx
      exact ⟨t, e, g.mono F.sub⟩
  | [], h => cases h
  | [.non], h => cases h
  | [.bl _], h => cases h
  | [.int _], h => cases h
  | [.str _], h => cases h
  | [.rol _], h => cases h
  | [.dct l], h =>
    obtain ⟨v, rfl, a, e0, kvs, h3, h4⟩ := one_of hv
    have h : ((intsD (l.map (·.1))).bind fun ns => if ns.length < 64 then Res.ok (D.lst ((sortI ns).map .int)) else .no) = .ok z := h
    cases hl : intsD (l.map (·.1)) with
    | no => rw [hl] at h; cases h
    | er c x => rw [hl] at h; cases h
    | ok ns =>
      rw [hl] at h
      simp only [Res.bind_ok] at h
      split at h
      · rename_i hz
        cases h
        have e := ints_inv hl
        refine .inr (.inr (.inr (.inr ⟨a, kvs, ns, by rw [e0], .inl h3, rpk_keys h4 e, hz, fun ys p p1 p2 hp => ?_⟩)))
        rw [sortI_of p1 p2]
        exact ok_newL F (RpL.ofInt _) q hp
      · cases h
  | [.fn _], h => cases h
  | [.obj _ _], h => cases h
  | [.dtt _], h => cases h
  | _ :: _ :: _, h => simp [priD] at h
theorem RpK.put {K : PySem.W.Frag} {fa : Nat → Option Addr} {G : Hp} {k : Key} {d : D} {v : V} (hd : Rp K fa G d v) {l : List (D × D)} {kvs : List (Key × V)} (h : RpK K fa G l kvs) : RpK K fa G (putD (keyD k) d l) (putK kvs k v) := by
  have any : ∀ {l : List (D × D)} {kvs : List (Key × V)}, RpK K fa G l kvs → (l.any fun p => eqv p.1 (keyD k)) = (kvs.any fun kv => decide (kv.1 = k)) := by
    intro l
    induction l with
    | nil =>
      intro kvs h
      have h' : kvs = [] := h
      subst h'
      rfl
    | cons p l ih =>
      intro kvs h
      obtain ⟨kd, dd⟩ := p
      obtain ⟨q, u, r, rfl, rfl, h1, h2⟩ := h
      rw [List.any_cons, List.any_cons, ih h2, eqv_key]
  have mp : ∀ {l : List (D × D)} {kvs : List (Key × V)}, RpK K fa G l kvs → RpK K fa G (l.map fun p => if eqv p.1 (keyD k) = true then (p.1, d) else p) (kvs.map fun kv => if kv.1 = k then (kv.1, v) else kv) := by
    intro l
    induction l with
    | nil =>
      intro kvs h
      have h' : kvs = [] := h
      subst h'
      exact rfl
    | cons p l ih =>
      intro kvs h
      obtain ⟨kd, dd⟩ := p
      obtain ⟨q, u, r, rfl, rfl, h1, h2⟩ := h
      rw [List.map_cons, List.map_cons]
      by_cases hq : q = k
      · rw [if_pos (by rw [eqv_key]; exact decide_eq_true hq), if_pos hq]
        exact ⟨q, v, _, rfl, rfl, hd, ih h2⟩
      · rw [if_neg (by rw [eqv_key]; simpa using hq), if_neg hq]
        exact ⟨q, u, _, rfl, rfl, h1, ih h2⟩
  have ap : ∀ {l : List (D × D)} {kvs : List (Key × V)}, RpK K fa G l kvs → RpK K fa G (l ++ [(keyD k, d)]) (kvs ++ [(k, v)]) := by
    intro l
    induction l with
    | nil =>
      intro kvs h
      have h' : kvs = [] := h
      subst h'
      exact ⟨k, v, [], rfl, rfl, hd, rfl⟩
    | cons p l ih =>
      intro kvs h
      obtain ⟨kd, dd⟩ := p
      obtain ⟨q, u, r, rfl, rfl, h1, h2⟩ := h
      exact ⟨q, u, _, rfl, rfl, h1, ih h2⟩
  unfold putD putK
  rw [any h]
  split
  · exact mp h
  · exact ap h
/-! dict -/
theorem dictL_ne : ∀ (ds : List D) (acc : List (D × D)) c x, dictL ds acc ≠ .er c x := by
  intro ds
  induction ds with
  | nil => intro acc c x h; cases h
  | cons d r ih =>
    intro acc c x h
    unfold dictL at h
    split at h
    · cases h
    · rename_i e
      cases e
      split at h
      · exact ih _ _ _ h
      · cases h
    · cases h
theorem dict_V {G H : Hp} (sub : Sub G H) : ∀ {ds : List D} {vs : List V} {acc l : List (D × D)} {kvs : List (Key × V)}, RpL C.K C.fa G ds vs → RpK C.K C.fa G acc kvs → dictL ds acc = .ok l →
    ∃ (ps : List Addr) (more : List (Key × V)), vs = ps.map V.ref ∧ Paired (fun p kv => SqT C.K H p [kV kv.1, kv.2]) ps more ∧ RpK C.K C.fa G l (mergeK kvs more)
  | [], vs, acc, l, kvs, h1, h2, h3 => by
    cases h3
    exact ⟨[], [], h1, .nil, h2⟩
  | d :: ds, _, acc, l, kvs, ⟨v, r, e1, h1, h2⟩, h3, h4 => by
    subst e1
    unfold dictL at h4
    split at h4
    · contradiction
    · rename_i k e r' eq
      cases eq
      obtain ⟨a, ys, rfl, p1, v1, r1, e2, k1, v2, r2, e3, k2, k3⟩ := h1
      obtain rfl : r2 = [] := k3
      subst e3 e2
      split at h4
      · rename_i hk
        obtain ⟨key, rfl, rfl⟩ := key_V hk (Rp.top sub k1)
        obtain ⟨ps, more, m1, m2, m3⟩ := dict_V sub h2 (RpK.put k2 h3) h4
        exact ⟨a :: ps, (key, v2) :: more, by rw [m1, List.map_cons], .cons (p1.mono sub).sq m2, m3⟩
      · cases h4
    · cases h4
def rDctA (K : PySem.W.Frag) : List V → Hp → VK → Prop := fun xs H Q => PT.rDctT K xs H Q ∨ (∃ (a : Addr) (ps : List Addr) (kvs : List (Key × V)), xs = [.ref a] ∧ SqL K H a (ps.map V.ref) ∧ Paired (fun p kv => SqT K H p [kV kv.1, kv.2]) ps kvs ∧ ∀ p, H p = none → Q (.ref p) (upd H p (.dK (mergeK [] kvs))))
theorem cr_dctA (hc : X.calm = true) : CallR X (.type "dict") (rDctA X.K) := CallR.or (PT.cr_dctT hc) (call_dictP hc)
theorem ok_newD {N : En} {G H : Hp} {ε : Env} {σ : L2.St} {ds : List (D × D)} {kvs : List (Key × V)} {Q : VK} (F : Fr C N G H ε σ) (h : RpK C.K C.fa G ds kvs) (q : ∀ G' H' v, Fr C N G' H' ε σ → Go C.tabs (fun _ => False) G H G' H' → RM C .frx G' H H' (.dct ds) v → Q v H') {p : Addr} (hp : H p = none) : Q (.ref p) (upd H p (.dK kvs)) := by
  obtain ⟨F', g'⟩ := F.newH (o := .dK kvs) hp
  exact q G _ _ F' g' ⟨fun _ => ⟨p, rfl, hp, F.gnone hp, kvs, upd_same, h⟩, fun z => by cases z⟩
theorem ok_dict : CrOk C .frx (rDctA C.K) (priD .dict) := by
  intro N G H ε σ ds z vs Q F hv h q
  match ds, h with
  | [.tup ds], h =>
    obtain ⟨v, rfl, a, xs, rfl, h3, h4⟩ := one_of hv
    have h' : ((dictL ds []).bind fun l => Res.ok (D.dct l)) = .ok z := h
    cases hl : dictL ds [] with
    | no => rw [hl] at h'; cases h'
    | er c x => rw [hl] at h'; cases h'
    | ok l =>
      rw [hl] at h'
      cases h'
      obtain ⟨ps, more, rfl, m2, m3⟩ := dict_V (acc := []) (kvs := []) F.sub h4 rfl hl
      exact .inl ⟨a, ps, more, rfl, h3.mono F.sub, m2, fun p hp => ok_newD F m3 q hp⟩
  | [.lst ds], h =>
    obtain ⟨v, rfl, a, xs, rfl, h3, h4⟩ := one_of hv
    have h' : ((dictL ds []).bind fun l => Res.ok (D.dct l)) = .ok z := h
    cases hl : dictL ds [] with
    | no => rw [hl] at h'; cases h'
    | er c x => rw [hl] at h'; cases h'
    | ok l =>
      rw [hl] at h'
      cases h'
      obtain ⟨ps, more, rfl, m2, m3⟩ := dict_V (acc := []) (kvs := []) F.sub h4 rfl hl
      exact .inr ⟨a, ps, more, rfl, SqL.of h3, m2, fun p hp => ok_newD F m3 q hp⟩
  | [], h => cases h
  | [.non], h => cases h
  | [.bl _], h => cases h
  | [.int _], h => cases h
  | [.str _], h => cases h
  | [.rol _], h => cases h
  | [.dct _], h => cases h
  | [.fn _], h => cases h
  | [.obj _ _], h => cases h
  | [.dtt _], h => cases h
  | _ :: _ :: _, h => simp [priD] at h
theorem rpl_dn {K : PySem.W.Frag} {fa : Nat → Option Addr} {G : Hp} (i : Int) : ∀ l : List Nat, RpL K fa G (l.map fun k => D.int (i + (k : Nat) * (-1))) (l.map fun k => V.int (i + (k : Nat) * (-1)))
  | [] => rfl
  | _ :: l => ⟨_, _, rfl, rfl, rpl_dn i l⟩
theorem ok_trg : CrOk C .esc PT.rTrg (priD .trg) := by
  intro N G H ε σ ds z vs Q F hv h q
  unfold priD at h
  split at h <;> first
    | contradiction
    | (cases h; done)
    | skip
  rename_i i j k _
  split at h
  · rename_i hs
    cases h
    simp only [Bool.and_eq_true, decide_eq_true_eq, smallR] at hs
    obtain ⟨⟨h1, h2⟩, ⟨h3, h4⟩, rfl, h5⟩ := hs
    cases hv with
    | cons r rr =>
      cases rr with
      | cons r' rr =>
        cases rr with
        | cons r'' rr =>
          cases rr
          obtain rfl := r
          obtain rfl := r'
          obtain rfl := r''
          exact ⟨i, j, rfl, ⟨by omega, by omega, by omega, by omega⟩, h5, ok_newT F (rpl_dn i _) q⟩
  · cases h
theorem insU_mem (i : Int) : ∀ (l : List Int) (k : Int), k ∈ insU i l ↔ k = i ∨ k ∈ l
  | [], k => by simp [insU]
  | j :: r, k => by
    unfold insU
    split
    · simp
    · split
      · rename_i e
        subst e
        simp
      · rw [List.mem_cons, insU_mem i r k, List.mem_cons]
        constructor
        · rintro (h | h | h)
          · exact .inr (.inl h)
          · exact .inl h
          · exact .inr (.inr h)
        · rintro (h | h | h)
          · exact .inr (.inl h)
          · exact .inl h
          · exact .inr (.inr h)
theorem insU_srt (i : Int) : ∀ (l : List Int), l.Pairwise (· < ·) → (insU i l).Pairwise (· < ·)
  | [], _ => by simp [insU]
  | j :: r, h => by
    rw [List.pairwise_cons] at h
    unfold insU
    split
    · rw [List.pairwise_cons, List.pairwise_cons]
      refine ⟨fun a ha => ?_, h⟩
      rcases List.mem_cons.mp ha with rfl | ha
      · assumption
      · have := h.1 a ha; omega
    · split
      · rw [List.pairwise_cons]; exact h
      · rw [List.pairwise_cons]
        refine ⟨fun a ha => ?_, insU_srt i r h.2⟩
        rcases (insU_mem i r a).mp ha with rfl | ha
        · omega
        · exact h.1 a ha
theorem setI_mem : ∀ (l : List Int) (k : Int), k ∈ setI l ↔ k ∈ l
  | [], k => Iff.rfl
  | i :: r, k => by rw [setI, insU_mem, setI_mem r k, List.mem_cons]
theorem setI_srt : ∀ l : List Int, (setI l).Pairwise (· < ·)
  | [] => List.Pairwise.nil
  | i :: r => insU_srt i _ (setI_srt r)
theorem strict_one {l m : List Int} (h1 : l.Pairwise (· < ·)) (h2 : m.Pairwise (· < ·)) (h : ∀ x, x ∈ l ↔ x ∈ m) : l = m := by
  have n1 : l.Nodup := h1.imp fun {a b} z => by omega
  have n2 : m.Nodup := h2.imp fun {a b} z => by omega
  exact sorted_uniq (h1.imp fun {a b} z => by omega) (h2.imp fun {a b} z => by omega) ((List.perm_ext_iff_of_nodup n1 n2).mpr h)
theorem ok_sst {w : World} : CrOk C .frx (PT.rSrtSet C.K w) (priD .sst) := by
  intro N G H ε σ ds z vs Q F hv h q
  unfold priD at h
  split at h <;> first
    | contradiction
    | (cases h; done)
    | skip
  rename_i ds _
  obtain ⟨v, rfl, hd⟩ := one_of hv
  obtain ⟨a, xs, rfl, h1, h2⟩ := hd
  cases hl : intsD ds with
  | no => rw [hl] at h; cases h
  | er c x => rw [hl] at h; cases h
  | ok l =>
    rw [hl] at h
    simp only [Res.bind_ok] at h
    split at h
    · rename_i hz
      cases h
      have e := ints_inv hl
      subst e
      have e2 := h2.int
      subst e2
      refine ⟨a, l, rfl, (h1.mono F.sub).sq, hz, fun p n hp hn => ⟨p, _, n, rfl, upd_same, by omega, fun ms r hs hm _ hr => ?_⟩⟩
      obtain ⟨F', g'⟩ := F.newH (o := SetO w p (fun j => decide (j ∈ l)) n) hp
      have e : ms = setI l := strict_one hs (setI_srt l) fun k => by rw [hm k, setI_mem, decide_eq_true_eq]
      rw [e]
      exact ok_newL F' (RpL.ofInt _) (fun G' H' v' F2 g2 r' => q G' H' v' F2 (g'.trans g2) (RM.back (N := N) g' r')) hr
    · cases h
theorem ok_lns : CrOk C .esc (PT.rLns C.K) (priD .lns) := by
  intro N G H ε σ ds z vs Q F hv h q
  unfold priD at h
  split at h <;> first
    | contradiction
    | (cases h; done)
    | skip
  rename_i ds _
  obtain ⟨v, rfl, hd⟩ := one_of hv
  obtain ⟨a, xs, rfl, h1, h2⟩ := hd
  cases hl : intsD ds with
  | no => rw [hl] at h; cases h
  | er c x => rw [hl] at h; cases h
  | ok l =>
    rw [hl] at h
    simp only [Res.bind_ok] at h
    split at h
    · rename_i hz
      cases h
      have e := ints_inv hl
      subst e
      have e2 := h2.int
      subst e2
      refine ⟨a, l, rfl, SqL.of h1, hz, fun m hm hk => ?_⟩
      have n1 : (setI l).Nodup := (setI_srt l).imp fun {a b} z => by omega
      have e : m.length = (setI l).length := ((List.perm_ext_iff_of_nodup hm n1).mpr fun k => by rw [hk k, setI_mem]).length_eq
      rw [e]
      exact ok_ret (z := .int _) F rfl rfl q
    · cases h
def rLrg : List V → Hp → VK → Prop := fun vs H Q => ∃ n, vs = [V.int n] ∧ RgOk 0 n ∧ ∀ q, H q = none → Q (.ref q) (upd H q (.lst (rgV 0 n)))
theorem rgV_L (j : Int) : RpL C.K C.fa G (rngL j) (rgV 0 j) := by
  unfold rngL rgV
  rw [Int.sub_zero]
  generalize List.range j.toNat = l
  induction l with
  | nil => exact rfl
  | cons a r ih => exact ⟨_, _, rfl, by show V.int (0 + (a : Nat)) = V.int (a : Nat); rw [Int.zero_add], ih⟩
theorem ok_lrg : CrOk C .frx rLrg (priD .lrg) := by
  intro N G H ε σ ds z vs Q F hv h q
  unfold priD at h
  split at h <;> first
    | contradiction
    | (cases h; done)
    | skip
  rename_i j _
  split at h
  · rename_i hs
    cases h
    obtain ⟨v, rfl, hd⟩ := one_of hv
    obtain rfl : v = .int j := hd
    have hs : -1000000 ≤ j ∧ j ≤ 1000000 := by simpa [smallR] using hs
    exact ⟨j, rfl, ⟨by omega, by omega, by omega, by omega, by omega⟩, fun p hp => ok_newL F (rgV_L j) q hp⟩
  · cases h
theorem facI_eq : ∀ n, facI n = PT.factN n
  | 0 => rfl
  | n + 1 => by rw [PT.factN_succ, ← facI_eq n]; rfl
theorem ok_fct : CrOk C .esc PT.rFact (priD .fct) := by
  intro N G H ε σ ds z vs Q F hv h q
  unfold priD at h
  split at h <;> first
    | contradiction
    | (cases h; done)
    | skip
  rename_i i _
  split at h
  · rename_i hs
    cases h
    obtain ⟨v, rfl, hd⟩ := one_of hv
    obtain rfl := hd
    refine ⟨i, rfl, hs.1, hs.2, ?_⟩
    rw [← facI_eq]
    exact ok_ret (z := .int _) F rfl rfl q
  · cases h
theorem insF_perm (p : Int × D) : ∀ l : List (Int × D), (insF p l).Perm (p :: l)
  | [] => List.Perm.refl _
  | q :: r => by
    unfold insF
    split
    · exact List.Perm.refl _
    · exact ((insF_perm p r).cons q).trans (List.Perm.swap p q r)
theorem sortF_perm : ∀ l : List (Int × D), (sortF l).Perm l
  | [] => List.Perm.refl _
  | p :: r => (insF_perm p _).trans ((sortF_perm r).cons p)
theorem insF_srt (p : Int × D) : ∀ l : List (Int × D), l.Pairwise (fun a b => a.1 ≤ b.1) → (insF p l).Pairwise (fun a b => a.1 ≤ b.1)
  | [], _ => List.pairwise_singleton _ _
  | q :: r, h => by
    have h' := List.pairwise_cons.mp h
    unfold insF
    split
    · rename_i c
      refine List.pairwise_cons.mpr ⟨fun x hx => ?_, h⟩
      rcases List.mem_cons.mp hx with rfl | hx
      · exact c
      · have := h'.1 x hx; omega
    · rename_i c
      refine List.pairwise_cons.mpr ⟨fun x hx => ?_, insF_srt p r h'.2⟩
      rcases List.mem_cons.mp ((insF_perm p r).mem_iff.mp hx) with rfl | hx
      · omega
      · exact h'.1 x hx
theorem sortF_srt : ∀ l : List (Int × D), (sortF l).Pairwise (fun a b => a.1 ≤ b.1)
  | [] => List.Pairwise.nil
  | p :: r => insF_srt p _ (sortF_srt r)
theorem leK_srt {β : Type} (l : List (Int × β)) : (l.mergeSort PT.leK).Pairwise (fun a b => a.1 ≤ b.1) := by
  refine (List.pairwise_mergeSort (le := PT.leK) (fun a b c h1 h2 => ?_) (fun a b => ?_) l).imp fun {a b} h => by simpa [PT.leK] using h
  · simp only [PT.leK, decide_eq_true_eq] at *
    omega
  · simp only [PT.leK, Bool.or_eq_true, decide_eq_true_eq]
    omega
theorem fst_inj {β : Type} : ∀ {l : List (Int × β)}, (l.map (·.1)).Nodup → ∀ a ∈ l, ∀ b ∈ l, a.1 = b.1 → a = b
  | [], _, a, ha, _, _, _ => by cases ha
  | p :: l, n, a, ha, b, hb, e => by
    rw [List.map_cons, List.nodup_cons] at n
    rcases List.mem_cons.mp ha with h1 | ha' <;> rcases List.mem_cons.mp hb with h2 | hb'
    · rw [h1, h2]
    · refine absurd (List.mem_map.mpr ⟨b, hb', ?_⟩) n.1
      rw [← h1]; exact e.symm
    · refine absurd (List.mem_map.mpr ⟨a, ha', ?_⟩) n.1
      rw [← h2]; exact e
    · exact fst_inj n.2 a ha' b hb' e
theorem sortF_eq {l : List (Int × D)} (n : (l.map (·.1)).Nodup) : sortF l = l.mergeSort PT.leK := by
  refine List.Perm.eq_of_pairwise (le := fun a b => a.1 ≤ b.1) (fun a b ha hb h1 h2 => ?_) (sortF_srt l) (leK_srt l) ((sortF_perm l).trans (List.mergeSort_perm _ _).symm)
  exact fst_inj n a ((sortF_perm l).mem_iff.mp ha) b ((List.mergeSort_perm _ _).mem_iff.mp hb) (by omega)
theorem fstL_ne : ∀ (ds : List D) c x, fstL ds ≠ .er c x
  | [], c, x => by unfold fstL; simp
  | d :: r, c, x => by
    intro h
    unfold fstL at h
    split at h
    · cases h
    · rename_i i ds r' e
      cases e
      cases hl : fstL r with
      | no => rw [hl] at h; cases h
      | er c x => exact fstL_ne r _ _ hl
      | ok l => rw [hl] at h; cases h
    · cases h
theorem fst_V {K : PySem.W.Frag} {fa : Nat → Option Addr} {G : Hp} : ∀ {ds : List D} {xs : List V} {l : List (Int × D)}, fstL ds = .ok l → RpL K fa G ds xs →
    ∃ m : List (Int × D × V), m.map (fun t => (t.1, t.2.1)) = l ∧ m.map (·.2.2) = xs ∧ ∀ t ∈ m, Rp K fa G t.2.1 t.2.2 ∧ ∃ ds, t.2.1 = .tup (.int t.1 :: ds)
  | [], xs, l, h, r => by
    cases h
    rw [show xs = [] from r]
    exact ⟨[], rfl, rfl, fun t m => by cases m⟩
  | d :: ds, xs, l, h, r => by
    unfold fstL at h
    split at h
    · rename_i e; cases e
    · rename_i i ds' r' e
      cases e
      cases hl : fstL ds with
      | no => rw [hl] at h; cases h
      | er c x => exact absurd hl (fstL_ne _ _ _)
      | ok l' =>
        rw [hl] at h
        cases h
        obtain ⟨v, r2, rfl, r3, r4⟩ := r
        obtain ⟨m, e1, e2, e3⟩ := fst_V hl r4
        refine ⟨(i, .tup (.int i :: ds'), v) :: m, by rw [List.map_cons, e1], by rw [List.map_cons, e2], fun t ht => ?_⟩
        rcases List.mem_cons.mp ht with rfl | ht
        · exact ⟨r3, ds', rfl⟩
        · exact e3 t ht
    · cases h
theorem RpL.of_map {K : PySem.W.Frag} {fa : Nat → Option Addr} {G : Hp} : ∀ {m : List (Int × D × V)}, (∀ t ∈ m, Rp K fa G t.2.1 t.2.2) → RpL K fa G (m.map (·.2.1)) (m.map (·.2.2))
  | [], _ => rfl
  | t :: m, h => ⟨t.2.2, _, rfl, h t List.mem_cons_self, RpL.of_map fun x hx => h x (List.mem_cons_of_mem _ hx)⟩
theorem ok_srk {f : Addr} : CrOk C .frx (fun vs H Q => PT.rSrk C.K f vs [V.ref f] H Q) (priD .srk) := by
  intro N G H ε σ ds z vs Q F hv h q
  unfold priD at h
  split at h <;> first
    | contradiction
    | (cases h; done)
    | skip
  rename_i ds _
  obtain ⟨v, rfl, hd⟩ := one_of hv
  obtain ⟨a, xs, rfl, h1, h2⟩ := hd
  cases hl : fstL ds with
  | no => rw [hl] at h; cases h
  | er c x => rw [hl] at h; cases h
  | ok l =>
    rw [hl] at h
    simp only [Res.bind_ok] at h
    split at h
    · rename_i hz
      cases h
      obtain ⟨m, e1, e2, e3⟩ := fst_V hl h2
      have s1 : (m.mergeSort PT.leK).map (fun t => (t.1, t.2.1)) = l.mergeSort PT.leK := by
        rw [← e1]
        exact List.map_mergeSort fun _ _ _ _ => rfl
      have s2 : (m.mergeSort PT.leK).map (fun t => (t.1, t.2.2)) = (m.map fun t => (t.1, t.2.2)).mergeSort PT.leK := List.map_mergeSort fun _ _ _ _ => rfl
      refine ⟨a, m.map (fun t => (t.1, t.2.2)), rfl, rfl, ?_, ?_, fun t ht => ?_, fun p hp => ?_⟩
      · rw [List.map_map]
        have : m.map ((fun t : Int × V => t.2) ∘ fun t => (t.1, t.2.2)) = xs := e2
        rw [this]
        exact SqL.of h1
      · rw [List.length_map, ← List.length_map (f := fun t : Int × D × V => (t.1, t.2.1)), e1]
        exact hz.2
      · obtain ⟨t', ht', rfl⟩ := List.mem_map.mp ht
        obtain ⟨r1, ds', e⟩ := e3 t' ht'
        rw [e] at r1
        obtain ⟨b, ys, eb, hb, r2⟩ := r1
        obtain ⟨u, r3, rfl, r4, r5⟩ := r2
        obtain rfl := r4
        exact ⟨b, r3, eb, (hb.mono F.sub).sq⟩
      · have e4 : ((sortF l).map (·.2)) = (m.mergeSort PT.leK).map (·.2.1) := by
          rw [sortF_eq hz.1, ← s1, List.map_map]
          rfl
        have e5 : (((m.map fun t => (t.1, t.2.2)).mergeSort PT.leK).map (·.2)) = (m.mergeSort PT.leK).map (·.2.2) := by
          rw [← s2, List.map_map]
          rfl
        rw [e5]
        refine ok_newL F (ds := (sortF l).map (·.2)) ?_ q hp
        rw [e4]
        exact RpL.of_map fun t ht => (e3 t ((List.mergeSort_perm _ _).mem_iff.mp ht)).1
    · cases h
theorem sortD_ne (ds : List D) : ∀ c x, sortD ds ≠ .er c x := by
  intro c x h
  unfold sortD at h
  split at h
  · cases h
  · cases hl : pairsI ds with
    | no => rw [hl] at h; cases h
    | er c x => exact pairs_ne _ _ _ hl
    | ok l => rw [hl] at h; cases h
theorem priD_ne (p : Pr) : ∀ (ds : List D) c x, priD p ds ≠ .er c x := by
  intro ds c x h
  unfold priD at h
  split at h <;> first
    | cases h
    | (split at h <;> cases h; done)
    | exact sortD_ne _ _ _ h
    | (rename_i xs ys; cases hl : intsD xs with
        | no => rw [hl] at h; cases h
        | er c x => exact ints_ne _ _ _ hl
        | ok l => rw [hl] at h; simp only [Res.bind_ok] at h; cases hm : intsD ys with
          | no => rw [hm] at h; cases h
          | er c x => exact ints_ne _ _ _ hm
          | ok m => rw [hm] at h; simp only [Res.bind_ok] at h; split at h <;> cases h)
    | (rename_i ds; cases hl : fstL ds with
        | no => rw [hl] at h; cases h
        | er c x => exact fstL_ne _ _ _ hl
        | ok l => rw [hl] at h; simp only [Res.bind_ok] at h; split at h <;> cases h)
    | (rename_i ds; cases hl : dictL ds [] with
        | no => rw [hl] at h; cases h
        | er c x => exact dictL_ne _ _ _ _ hl
        | ok l => rw [hl] at h; cases h)
    | (rename_i l; cases hl : intsD (l.map (·.1)) with
        | no => rw [hl] at h; cases h
        | er c x => exact ints_ne _ _ _ hl
        | ok l => rw [hl] at h; simp only [Res.bind_ok] at h; split at h <;> cases h)
    | (rename_i ds; cases hl : intsD ds with
        | no => rw [hl] at h; cases h
        | er c x => exact ints_ne _ _ _ hl
        | ok l => rw [hl] at h; first | cases h | (cases l <;> cases h) | (simp only [Res.bind_ok] at h; split at h <;> cases h))
end
end Ev
/-! ### isinstance, calls of defs -/
namespace Ev
open PySem PySem.Spec PyProof.Rows L2
section
variable {C : Cn} {X : Cx} {e a b c : Expr} {f g h : Env → Res (D × Env)} {p pa pb pc : Bool} {pos : Pos}
/-- no star -/
def nost : Expr → Bool
  | .Starred .. => false
  | _ => true
theorem star_c {es : List Expr} (h : nost a = true) (env : PySem.Env) : starEach (a :: es) env = (false, eval a env) :: starEach es env := by
  cases a <;> first | rfl | cases h
theorem star_any {env : PySem.Env} : ∀ {es : List Expr}, es.all nost = true → (starEach es env).any (·.1) = false
  | [], _ => rfl
  | a :: es, h => by
    rw [List.all_cons, Bool.and_eq_true] at h
    rw [star_c h.1, List.any_cons, star_any h.2]
    rfl
theorem back_any {pos : Pos} {env : PySem.Env} {es : List Expr} (h : es.all nost = true) : (backTo pos (starEach es env)).any (·.1) = false := by
  have h1 := star_any (env := env) h
  generalize starEach es env = l at h1
  cases l with
  | nil => rfl
  | cons x r =>
    first
      | exact h1
      | (simp only [backTo, List.any_cons, List.any_map] at h1 ⊢; exact h1)
      | (simp only [backTo, List.any_cons] at h1 ⊢; simpa using h1)
def Ty.nm : Ty → String
  | .int => "int" | .bool => "bool" | .str => "str" | .tuple => "tuple" | .list => "list"
def tyN : D → String
  | .non => "NoneType" | .bl _ => "bool" | .int _ => "int" | .str _ => "str" | .tup _ => "tuple" | .lst _ => "list" | .dct _ => "dict" | _ => ""
theorem ty_of {G H : Hp} (sub : Sub G H) {d : D} {v : V} (hk : isiOk d = true) (r : Top C.K C.fa G H d v) : TyX C.K H v (.type (tyN d)) := by
  cases d with
  | non => obtain rfl : v = .non := r; exact .base .non
  | bl b => obtain rfl : v = .bl b := r; exact .base (.bl b)
  | int b => obtain rfl : v = .int b := r; exact .base (.int b)
  | str b => obtain ⟨rfl, _⟩ := r; exact .base (.str b)
  | tup b => obtain ⟨a, xs, rfl, ⟨o, _, h⟩, _⟩ := r; exact .fTuple (sub _ _ h)
  | lst b => obtain ⟨a, xs, rfl, h, _⟩ := r; exact .base (.lst h)
  | dct b =>
    obtain ⟨a, rfl, ks, h, _⟩ := r
    exact .base (.dK h)
  | rol b => cases hk
  | dtt b => cases hk
  | fn b => cases hk
  | obj b c => cases hk
theorem kit_D (d : D) (t : Ty) (hk : isiOk d = true) : kitB (tyN d) t.nm = some (isiD d t) := by
  cases d <;> first | cases hk | skip
  all_goals cases t <;> (simp only [tyN, Ty.nm, isiD]; decide +kernel)
theorem isi_fin {N : En} {σ : L2.St} {G H : Hp} {ε : Env} {d : D} {ts : List Ty} {Q : VK} {P : D → Hp → Hp → Env → Prop} (F : Fr C N G H ε σ) (w : Post C N σ true G H (if isiOk d = true then .ok (.bl (ts.any fun t => isiD d t), ε) else .no) P) :
    isiOk d = true ∧ P (.bl (ts.any fun t => isiD d t)) G H ε := by
  split at w
  · rename_i hk
    exact ⟨hk, w.here F⟩
  · exact w.elim
theorem pe_isi1 {t : Ty} {p0 p1 : Pos} {m : Mo} (hm : m ≠ .frx) (hK : X.K = C.K) (hg : Gl X "isinstance") (hn : X.mg "isinstance" = none) (ha : PE X a (tR C p m f)) (hT : PE X b (tC (.ty t.nm)))
    (na : nost a = true) (nb : nost b = true) :
    PE X (.Call (.Name "isinstance" p0) [a, b] [] pos) (tR C p .esc fun ε => (f ε).bind fun p => if isiOk p.1 = true then .ok (.bl ([t].any fun t => isiD p.1 t), p.2) else .no) := by
  refine PE.imp (pe_callB call_isi hg hn (by decide +kernel) (pa_cons ha (pa_cons hT pa_nil (star_c nb _)) (star_c na _)) (by decide) (by decide) (star_c na _) (back_any (by simp [nb]))) fun σ H Q ⟨N, G, ε, F, w⟩ => ⟨N, G, ε, F, ?_⟩
  rw [hK]
  have w' : Post C N σ (p && true) G H ((f ε).bind fun p => if isiOk p.1 = true then .ok (.bl ([t].any fun t => isiD p.1 t), p.2) else .no) fun d G' H' _ => ∀ v, RM C .esc G' H H' d v → Q v H' := by rw [Bool.and_true]; exact w
  refine w'.bind.imp fun d G1 H1 ε1 F1 g1 w1 v rv => ?_
  obtain ⟨hk, q⟩ := isi_fin (Q := Q) F1 w1
  have rt := top_keep (C := C) (pb := true) hm (.inl rfl) F1 (Go.refl _ (Mx C σ true) _ _) rv
  refine ⟨v, .ty t.nm, .type (tyN d), .type t.nm, _, rfl, .ty _, ty_of F1.sub hk rt, kit_ty (kit_D d t hk), ?_⟩
  have e : ([t].any fun t => isiD d t) = isiD d t := by simp
  rw [← e]
  exact q _ rfl
theorem pe_isi2 {t u : Ty} {p0 p1 p2 : Pos} {k : Nat} {m : Mo} (hm : m ≠ .frx) (hK : X.K = C.K) (hg : Gl X "isinstance") (hn : X.mg "isinstance" = none) (ha : PE X a (tR C p m f)) (hT : PE X b (tC (.ty t.nm))) (hU : PE X c (tC (.ty u.nm)))
    (na : nost a = true) (nb : nost b = true) (nc : nost c = true) :
    PE X (.Call (.Name "isinstance" p0) [a, .Tuple [b, c] k p1] [] pos) (tR C p .esc fun ε => (f ε).bind fun p => if isiOk p.1 = true then .ok (.bl ([t, u].any fun t => isiD p.1 t), p.2) else .no) := by
  refine PE.imp (pe_callB call_isiT hg hn (by decide +kernel) (pa_cons ha (pa_cons (pe_tup (pa_cons hT (pa_cons hU pa_nil (star_c nc _)) (star_c nb _))) pa_nil rfl) (star_c na _)) (by decide) (by decide) (star_c na _) (back_any rfl)) fun σ H Q ⟨N, G, ε, F, w⟩ => ⟨N, G, ε, F, ?_⟩
  rw [hK]
  have w' : Post C N σ (p && true) G H ((f ε).bind fun p => if isiOk p.1 = true then .ok (.bl ([t, u].any fun t => isiD p.1 t), p.2) else .no) fun d G' H' _ => ∀ v, RM C .esc G' H H' d v → Q v H' := by rw [Bool.and_true]; exact w
  refine w'.bind.imp fun d G1 H1 ε1 F1 g1 w1 v rv => ?_
  obtain ⟨hk, q⟩ := isi_fin (Q := Q) F1 w1
  have rt := top_keep (C := C) (pb := true) hm (.inl rfl) F1 (Go.refl _ (Mx C σ true) _ _) rv
  refine ⟨by show 2 ≤ sizeLine; decide, fun q0 hq => ?_⟩
  obtain ⟨F2, g2⟩ := F1.new (o := .tup [.ty t.nm, .ty u.nm]) hq (fun ps z => by cases z)
  have rt2 := Top.mono g2.ext (fun b o h t => g2.keep b o h (fun z => z) t) rt
  refine ⟨v, q0, [.ty t.nm, .ty u.nm], .type (tyN d), [.type t.nm, .type u.nm], ([t, u].any fun t => isiD d t), rfl, upd_same, .cons (.ty _) (.cons (.ty _) .nil), ty_of F2.sub hk rt2, ?_, ?_⟩
  · refine kitAny_cons (kit_ty (kit_D d t hk)) (fun h1 => kitAny_cons (kit_ty (kit_D d u hk)) (fun h2 => ?_) fun h2 => ?_) fun h1 => ?_
    · rw [kitAny_nil]
      simp [h1, h2]
    · simp [h2]
    · simp [h1]
  · have w1' : Post C N σ true G1 H1 (if isiOk d = true then .ok (.bl ([t, u].any fun t => isiD d t), ε1) else .no) fun d G' H' _ => ∀ v, RM C .esc G' H H' d v → Q v H' := w1
    rw [if_pos hk] at w1'
    exact w1' _ _ F2 (g2.weak fun _ z => z.elim) _ rfl

/-! #### a def's promise -/
def ioOf (m0 : Bool) (vs : List V) : Option Addr := if m0 = true then match vs with
  | .ref a :: _ => some a
  | _ => none else none
theorem ioOf_some {m0 : Bool} {vs : List V} {a : Addr} (h : ioOf m0 vs = some a) : m0 = true ∧ ∃ r, vs = .ref a :: r := by
  unfold ioOf at h
  by_cases hm : m0 = true
  · rw [if_pos hm] at h
    cases vs with
    | nil => cases h
    | cons v r =>
      cases v <;> first | (cases h; exact ⟨hm, _, rfl⟩) | cases h
  · rw [if_neg hm] at h
    cases h
/-- what a parameter gets -/
def PaR (C : Cn) (G H : Hp) (k : Cls) (d : D) (v : V) : Prop := match k with
  | .pl => Rp C.K C.fa G d v
  | .mu => ∃ a, v = .ref a ∧ TopM C.K C.fa G H d a
  | .bo => isC d = true ∧ Top C.K C.fa G H d v
def spF (C : Cn) (I : FI) (call : List D → Res (D × D)) : Sp := fun vs H Q E => ∃ G ds, Sub G H ∧ (∀ b ps, G b ≠ some (.tbl ps)) ∧ (∀ P ∈ C.tabs, TbOk H P) ∧ ds.length = I.np ∧ vs.length = I.np ∧
  (∀ (j : Nat) (d : D) (v : V), ds[j]? = some d → vs[j]? = some v → PaR C G H (I.cl j) d v) ∧ (∀ (i j : Nat) (a : Addr), I.cl i ≠ .pl → I.cl j = .mu → vs[i]? = some (.ref a) → vs[j]? = some (.ref a) → i = j) ∧
  match call ds with
  | .ok r => ∀ G' H' v, Sub G' H' → (∀ b ps, G' b ≠ some (.tbl ps)) → Go C.tabs (fun b => ioOf I.m0 vs = some b) G H G' H' → Rp C.K C.fa G' r.1 v → (∀ a, ioOf I.m0 vs = some a → TopM C.K C.fa G' H' r.2 a) → Q v H'
  | .er c x => ∀ G' H' cls dd, Go C.tabs (fun b => ioOf I.m0 vs = some b) G H G' H' → C.exr c x cls dd H' → E cls dd H'
  | .no => False

/-! #### arguments -/
def Arg.k : Arg → Option Nat
  | .val _ => none
  | .ref i => some i
def ArR (C : Cn) (G : Hp) (σ : L2.St) (x : Arg) (v : V) : Prop := match x with
  | .val d => Rp C.K C.fa G d v
  | .ref i => σ[i]? = some (some v)
def tAr (C : Cn) (p : Bool) (f : Env → Res (List Arg × Env)) : TA := fun σ H Q => ∃ N G ε, Fr C N G H ε σ ∧ Post C N σ p G H (f ε) fun as G' H' _ => ∀ vs, Paired (ArR C G' σ) as vs → Q vs H'
theorem ta_nil : PA X [] (tAr C true fun ε => .ok ([], ε)) := PA.imp pa_nil fun σ H Q ⟨N, G, ε, F, w⟩ => Post.here F w [] .nil
theorem ArR.mono {G G' : Hp} {σ : L2.St} {x : Arg} {v : V} (e : Sub G G') (h : ArR C G σ x v) : ArR C G' σ x v := by
  cases x with
  | val d => exact Rp.mono e h
  | ref i => exact h
theorem ta_cons {es : List Expr} {fl : Env → Res (List Arg × Env)} (ha : PE X a (tR C pa .esc f)) (hr : PA X es (tAr C pb fl)) (hs : starEach (a :: es) X.env = (false, eval a X.env) :: starEach es X.env) :
    PA X (a :: es) (tAr C (pa && pb) fun ε => (f ε).bind fun p => (fl p.2).bind fun q => .ok (.val p.1 :: q.1, q.2)) := by
  refine PA.imp (pa_cons ha hr hs) fun σ H Q ⟨N, G, ε, F, w⟩ => ⟨N, G, ε, F, ?_⟩
  refine w.bind.imp fun d G1 H1 ε1 F1 g1 w1 v rv => ⟨N, G1, ε1, F1, ?_⟩
  have w1' : Post C N σ (pb && true) G1 H1 ((fl ε1).bind fun q => .ok (.val d :: q.1, q.2)) fun as G' H' _ => ∀ vs, Paired (ArR C G' σ) as vs → Q vs H' := by rw [Bool.and_true]; exact w1
  refine w1'.bind.imp fun ds G2 H2 ε2 F2 g2 w2 vs rvs => ?_
  exact w2.here F2 (v :: vs) (.cons (Rp.mono g2.ext rv) rvs)
theorem ta_ref {i : Nat} {x : Str} {ps : Pos} {es : List Expr} {fl : Env → Res (List Arg × Env)} (hN : X.N[i]? = some x) (hv : Vis X.env.scope x) (hd : (x == ("__debug__" : Str)) = false) (hcd : (x == ("__classdict__" : Str)) = false) (hc : C.cl i ≠ .pl)
    (hr : PA X es (tAr C pb fl)) : PA X (.Name x ps :: es) (tAr C pb fun ε => (getE ε i).bind fun _ => (fl ε).bind fun q => .ok (.ref i :: q.1, q.2)) := by
  refine PA.imp (pa_cons (pe_var hN hv hd hcd) hr rfl) fun σ H Q ⟨N, G, ε, F, w⟩ => ?_
  have hv : ∃ v, σ[i]? = some (some v) ∧ Post C N σ pb G H ((fl ε).bind fun q => .ok (.ref i :: q.1, q.2)) fun as G' H' _ => ∀ vs, Paired (ArR C G' σ) as vs → Q vs H' := by
    dsimp only [getE] at w
    split at w
    · rename_i d he
      cases hk : C.cl i with
      | pl => exact absurd hk hc
      | mu =>
        obtain ⟨a, h1, _⟩ := F.mu i d hk he
        exact ⟨_, h1, w⟩
      | bo =>
        obtain ⟨v, h1, _⟩ := F.bo i d hk he
        exact ⟨v, h1, w⟩
    · exact w.elim
  obtain ⟨v, h1, w1⟩ := hv
  refine ⟨v, h1, N, G, ε, F, ?_⟩
  have w1' : Post C N σ (pb && true) G H ((fl ε).bind fun q => .ok (.ref i :: q.1, q.2)) fun as G' H' _ => ∀ vs, Paired (ArR C G' σ) as vs → Q vs H' := by rw [Bool.and_true]; exact w1
  refine w1'.bind.imp fun ds G2 H2 ε2 F2 g2 w2 vs rvs => ?_
  exact w2.here F2 (v :: vs) (.cons h1 rvs)

/-! #### the call -/
section
variable {N : En} {G H G' H' : Hp} {ε : Env} {σ : L2.St}
/-- a changed slot's object has changed -/
theorem Fr.mutd (F : Fr C N G H ε σ) {i : Nat} {a : Addr} {o : D} (hc : C.cl i = .mu) (hs : σ[i]? = some (some (.ref a))) (g : Go C.tabs (fun b => b = a) G H G' H') (sub : Sub G' H') (ntb : ∀ b ps, G' b ≠ some (.tbl ps)) (ho : TopM C.K C.fa G' H' o a) : Fr C N G' H' (ε.set i (some o)) σ := by
  have ga : ∀ j b, C.cl j = .mu → σ[j]? = some (some (.ref b)) → G b = none → G' b = none := fun j b c h hb => by
    cases q : G' b with
    | none => rfl
    | some u =>
      rcases g.new b (by rw [q]; simp) with z | z
      · exact absurd hb z
      · exact absurd z (F.dm j b (by rw [c]; simp) h)
  refine ⟨sub, ntb, fun P m => g.tabg P m (F.tab P m), by rw [List.length_set]; exact F.len, F.ln, fun j d c e => ?_, fun j d c e => ?_, fun j d c e => ?_, fun j d c e => ?_, F.dis, fun j b c h => g.dom b (F.dm j b c h), ?_, F.fre, fun b hb => ?_⟩
  · have hj : i ≠ j := fun z => by rw [z, c] at hc; cases hc
    rw [List.getElem?_set_ne hj] at e
    obtain ⟨v, h1, h2⟩ := F.pl j d c e
    exact ⟨v, h1, h2.mono g.ext⟩
  · by_cases hj : i = j
    · subst hj
      have hl : i < ε.length := by
        rw [F.len]
        exact (List.getElem?_eq_some_iff.mp hs).1
      rw [List.getElem?_set_self hl] at e
      cases e
      exact ⟨a, hs, ho⟩
    · rw [List.getElem?_set_ne hj] at e
      obtain ⟨b, h1, h2⟩ := F.mu j d c e
      have hb : b ≠ a := fun z => hj (F.dis i j a (by rw [hc]; simp) c hs (by rw [h1, z]))
      refine ⟨b, h1, h2.mono g.ext (ga j b c h1 h2.none) fun o' ho' => ?_⟩
      obtain ⟨o2, h3, h4⟩ := h2.there
      rw [ho'] at h3
      cases h3
      exact g.keep b o' ho' hb h4
  · have hj : i ≠ j := fun z => by rw [z, c] at hc; cases hc
    rw [List.getElem?_set_ne hj] at e
    obtain ⟨v, h1, h2⟩ := F.bo j d c e
    refine ⟨v, h1, ?_⟩
    cases d with
    | lst ds =>
      obtain ⟨b, xs, rfl, k1, k2⟩ := h2
      have hb : b ≠ a := fun z => hj (F.dis j i a (by rw [c]; simp) hc (by rw [h1, z]) hs).symm
      exact ⟨b, xs, rfl, g.keep b _ k1 hb (fun ps z => by cases z), RpL.mono g.ext k2⟩
    | dct ds =>
      obtain ⟨b, rfl, k⟩ := h2
      have hb : b ≠ a := fun z => hj (F.dis j i a (by rw [c]; simp) hc (by rw [h1, z]) hs).symm
      obtain ⟨ks, k1, k2⟩ := k
      exact ⟨b, rfl, ks, g.keep b _ k1 hb (fun ps z => by cases z), RpK.mono g.ext k2⟩
    | dtt ds =>
      obtain ⟨b, rfl, k⟩ := h2
      have hb : b ≠ a := fun z => hj (F.dis j i a (by rw [c]; simp) hc (by rw [h1, z]) hs).symm
      obtain ⟨ks, k1, k2⟩ := k
      exact ⟨b, rfl, ks, g.keep b _ k1 hb (fun ps z => by cases z), RpT.mono g.ext k2⟩
    | non => exact h2
    | bl _ => exact h2
    | int _ => exact h2
    | str _ => exact h2
    | tup _ => exact Rp.mono g.ext (d := .tup _) h2
    | rol _ => exact Rp.mono g.ext (d := .rol _) h2
    | fn _ => exact h2
    | obj _ _ => exact h2
  · have hj : i ≠ j := fun z => by rw [z, c] at hc; cases hc
    rw [List.getElem?_set_ne hj] at e
    exact F.boc j d c e
  · -- from the entry
    refine ⟨F.go.ext.trans g.ext, fun b h => ?_, fun b u e m t => ?_, fun b ps e => ?_, fun P m h => g.tabg P m (F.go.tabg P m h), fun b h => g.dom b (F.go.dom b h)⟩
    · rcases g.new b h with z | z
      · exact F.go.new b z
      · exact .inr (F.go.back z)
    · refine g.keep b u (F.go.keep b u e m t) (fun z => ?_) t
      subst z
      rcases F.fre i b hc hs with q | q
      · rw [q] at e; cases e
      · exact m q
    · obtain ⟨ps', e'⟩ := F.go.tbl b ps e
      exact g.tbl b ps' e'
  · obtain ⟨h1, h2, d, h3⟩ := F.io b hb
    refine ⟨h1, h2, ?_⟩
    by_cases hj : i = 0
    · subst hj
      have hl : 0 < ε.length := (List.getElem?_eq_some_iff.mp h3).1
      exact ⟨o, by rw [List.getElem?_set_self hl]⟩
    · exact ⟨d, by rw [List.getElem?_set_ne hj]; exact h3⟩
end
theorem argsD_ne (ε : Env) : ∀ (as : List Arg) c x, argsD ε as ≠ .er c x := by
  intro as
  induction as with
  | nil => intro c x h; cases h
  | cons a r ih =>
    intro c x h
    cases a with
    | val d =>
      simp only [argsD] at h
      cases hr : argsD ε r with
      | ok l => rw [hr] at h; cases h
      | no => rw [hr] at h; cases h
      | er c x => exact ih _ _ hr
    | ref i =>
      simp only [argsD, getE] at h
      split at h
      · simp only [Res.bind_ok] at h
        cases hr : argsD ε r with
        | ok l => rw [hr] at h; cases h
        | no => rw [hr] at h; cases h
        | er c x => exact ih _ _ hr
      · cases h
theorem argsD_get {ε : Env} : ∀ {as : List Arg} {ds : List D}, argsD ε as = .ok ds → ds.length = as.length ∧ ∀ (j : Nat) (x : Arg), as[j]? = some x → ∃ d, ds[j]? = some d ∧ (match x with | Arg.val e => d = e | Arg.ref i => ε[i]? = some (some d))
  | [], ds, h => by cases h; exact ⟨rfl, fun j x e => by simp at e⟩
  | .val e :: r, ds, h => by
    simp only [argsD] at h
    cases hr : argsD ε r with
    | no => rw [hr] at h; cases h
    | er c x => rw [hr] at h; cases h
    | ok l =>
      rw [hr] at h
      cases h
      obtain ⟨h1, h2⟩ := argsD_get hr
      refine ⟨by rw [List.length_cons, List.length_cons, h1], fun j x e' => ?_⟩
      cases j with
      | zero => cases e'; exact ⟨e, rfl, rfl⟩
      | succ j => exact h2 j x e'
  | .ref i :: r, ds, h => by
    simp only [argsD, getE] at h
    split at h
    · rename_i d hd
      simp only [Res.bind_ok] at h
      cases hr : argsD ε r with
      | no => rw [hr] at h; cases h
      | er c x => rw [hr] at h; cases h
      | ok l =>
        rw [hr] at h
        cases h
        obtain ⟨h1, h2⟩ := argsD_get hr
        refine ⟨by rw [List.length_cons, List.length_cons, h1], fun j x e' => ?_⟩
        cases j with
        | zero => cases e'; exact ⟨d, rfl, hd⟩
        | succ j => exact h2 j x e'
    · cases h
theorem paired_at {α β : Type} {R : α → β → Prop} : ∀ {l : List α} {m : List β}, Paired R l m → l.length = m.length ∧ ∀ (j : Nat) (y : β), m[j]? = some y → ∃ x, l[j]? = some x ∧ R x y
  | _, _, .nil => ⟨rfl, fun j y e => by simp at e⟩
  | _, _, .cons h t => by
    obtain ⟨h1, h2⟩ := paired_at t
    refine ⟨by rw [List.length_cons, List.length_cons, h1], fun j y e => ?_⟩
    cases j with
    | zero => cases e; exact ⟨_, rfl, h⟩
    | succ j => exact h2 j y e
/-- how arguments fit the parameters: ks: the slots that are handed over by themselves; mt: the one that the def changes -/
structure Fits (C : Cn) (I : FI) (ks : List (Option Nat)) (mt : Option Nat) : Prop where
  np : ks.length = I.np
  pl : ∀ (j : Nat), ks[j]? = some none → I.cl j = .pl
  rf : ∀ (j i : Nat), ks[j]? = some (some i) → (I.cl j = .mu ∧ C.cl i = .mu) ∨ (I.cl j = .bo ∧ C.cl i ≠ .pl)
  un : ∀ (j j' i : Nat), ks[j]? = some (some i) → ks[j']? = some (some i) → j = j'
  ch : ∀ (i : Nat), mt = some i → I.m0 = true ∧ ks[0]? = some (some i) ∧ C.cl i = .mu
  m0 : I.m0 = true → mt ≠ none
theorem tr_call {I : FI} {mt : Option Nat} {ks : List (Option Nat)} {fn : Nat} {fl : Env → Res (List Arg × Env)} (ft : Fits C I ks mt) (hk : ∀ ε q, fl ε = .ok q → q.1.map Arg.k = ks) {σ : L2.St} {H : Hp} {Q : VK}
    (w : tR C (mt.isNone && pa) .esc (fun ε => (fl ε).bind fun p => (argsD p.2 p.1).bind fun ds => (C.call fn ds).bind fun r => .ok (r.1, setO mt r.2 p.2)) σ H Q) :
    tCall (spF C I (C.call fn)) [] C.W (tAr C pa fl) σ H Q := by
  obtain ⟨N, G, ε, F, w⟩ := w
  refine ⟨N, G, ε, F, ?_⟩
  have w' : Post C N σ (pa && mt.isNone) G H ((fl ε).bind fun p => (argsD p.2 p.1).bind fun ds => (C.call fn ds).bind fun r => .ok (r.1, setO mt r.2 p.2)) fun d G' H' _ => ∀ v, RM C .esc G' H H' d v → Q v H' := by rw [Bool.and_comm]; exact w
  have hks : ∀ q, fl ε = .ok q → q.1.map Arg.k = ks := hk ε
  have w1 := w'.bind
  revert w1
  cases hfl : fl ε with
  | no => exact fun w => w
  | er c x => exact fun w => w
  | ok q =>
  intro w1 G1 H1 F1 g1 vs rvs
  have w2 := w1 G1 H1 F1 g1
  have hq := hks q hfl
  obtain ⟨ds, hds, w3⟩ := w2.val (argsD_ne q.2 q.1)
  obtain ⟨dl, dg⟩ := argsD_get hds
  obtain ⟨vl, vg⟩ := paired_at rvs
  have kl : ks.length = q.1.length := by rw [← hq, List.length_map]
  have kat : ∀ (j : Nat) (x : Arg), q.1[j]? = some x → ks[j]? = some x.k := fun j x e => by rw [← hq, List.getElem?_map, e]; rfl
  rw [List.append_nil]
  -- what each parameter gets
  have par : ∀ (j : Nat) (d : D) (v : V), ds[j]? = some d → vs[j]? = some v → ∃ x, q.1[j]? = some x ∧ ArR C G1 σ x v ∧ (match x with | Arg.val e => d = e | Arg.ref i => q.2[i]? = some (some d)) := fun j d v e1 e2 => by
    obtain ⟨x, h1, h2⟩ := vg j v e2
    obtain ⟨d', h3, h4⟩ := dg j x h1
    rw [e1] at h3
    cases h3
    exact ⟨x, h1, h2, h4⟩
  have io1 : ∀ a, ioOf I.m0 vs = some a → ∃ i, mt = some i ∧ C.cl i = .mu ∧ σ[i]? = some (some (.ref a)) := fun a ha => by
    obtain ⟨hm, r, ev⟩ := ioOf_some ha
    have hne := ft.m0 hm
    cases hmt : mt with
    | none => exact absurd hmt hne
    | some i =>
      obtain ⟨_, m2, m3⟩ := ft.ch i hmt
      have e0 : vs[0]? = some (.ref a) := by rw [ev]; rfl
      obtain ⟨x, h1, h2⟩ := vg 0 _ e0
      have := kat 0 x h1
      rw [m2] at this
      cases x with
      | val d => cases this
      | ref i' =>
        cases this
        exact ⟨i, rfl, m3, h2⟩
  have iom : ∀ i, mt = some i → ∃ a, ioOf I.m0 vs = some a ∧ C.cl i = .mu ∧ σ[i]? = some (some (.ref a)) := fun i hi => by
    obtain ⟨m1, m2, m3⟩ := ft.ch i hi
    have l0 : 0 < q.1.length := by rw [← kl]; exact (List.getElem?_eq_some_iff.mp m2).1
    obtain ⟨x, hx⟩ : ∃ x, q.1[0]? = some x := ⟨_, List.getElem?_eq_getElem l0⟩
    have k0 := kat 0 x hx
    rw [m2] at k0
    cases x with
    | val d => cases k0
    | ref i' =>
      cases k0
      have l1 : 0 < vs.length := by rw [← vl]; exact l0
      obtain ⟨v, r, ev⟩ : ∃ v r, vs = v :: r := by
        cases vs with
        | nil => cases l1
        | cons v r => exact ⟨v, r, rfl⟩
      obtain ⟨x', h1, h2⟩ := vg 0 v (by rw [ev]; rfl)
      rw [hx] at h1
      cases h1
      have h2 : σ[i]? = some (some v) := h2
      obtain ⟨d, hd1, hd2⟩ := dg 0 _ hx
      obtain ⟨a, s1, _⟩ := F1.mu i d m3 hd2
      rw [h2] at s1
      cases s1
      refine ⟨a, ?_, m3, h2⟩
      unfold ioOf
      rw [if_pos m1, ev]
  refine ⟨G1, ds, F1.sub, F1.ntb, F1.tab, by rw [dl, ← kl, ft.np], by rw [← vl, ← kl, ft.np], fun j d v e1 e2 => ?_, fun j j' a c1 c2 e1 e2 => ?_, ?_⟩
  · obtain ⟨x, h1, h2, h3⟩ := par j d v e1 e2
    have hkj := kat j x h1
    cases x with
    | val e =>
      have h3 : d = e := h3
      subst h3
      rw [ft.pl j hkj]
      exact h2
    | ref i =>
      have h2 : σ[i]? = some (some v) := h2
      have h3 : q.2[i]? = some (some d) := h3
      rcases ft.rf j i hkj with ⟨k1, k2⟩ | ⟨k1, k2⟩
      · rw [k1]
        obtain ⟨a, s1, s2⟩ := F1.mu i d k2 h3
        rw [h2] at s1
        cases s1
        exact ⟨a, rfl, s2⟩
      · rw [k1]
        cases hc : C.cl i with
        | pl => exact absurd hc k2
        | mu =>
          obtain ⟨a, s1, s2⟩ := F1.mu i d hc h3
          rw [h2] at s1
          cases s1
          exact ⟨s2.isC, s2.top⟩
        | bo =>
          obtain ⟨u, s1, s2⟩ := F1.bo i d hc h3
          rw [h2] at s1
          cases s1
          exact ⟨F1.boc i d hc h3, s2⟩
  · obtain ⟨x, h1, h2⟩ := vg j _ e1
    obtain ⟨x', h1', h2'⟩ := vg j' _ e2
    have k1 := kat j x h1
    have k2 := kat j' x' h1'
    cases x with
    | val d => exact absurd (ft.pl j k1) c1
    | ref i =>
      cases x' with
      | val d => rw [ft.pl j' k2] at c2; cases c2
      | ref i' =>
        have h2 : σ[i]? = some (some (.ref a)) := h2
        have h2' : σ[i']? = some (some (.ref a)) := h2'
        have ci' : C.cl i' = .mu := by
          rcases ft.rf j' i' k2 with ⟨z1, z2⟩ | ⟨z1, z2⟩
          · exact z2
          · rw [c2] at z1; cases z1
        have ci : C.cl i ≠ .pl := by
          rcases ft.rf j i k1 with ⟨z1, z2⟩ | ⟨z1, z2⟩
          · rw [z2]; simp
          · exact z2
        have e := F1.dis i i' a ci ci' h2 h2'
        subst e
        exact ft.un j j' i k1 k2
  · cases hcall : C.call fn ds with
    | no => rw [hcall] at w3; exact w3
    | er cc x =>
      rw [hcall] at w3
      intro G' H' cls dd g' hx
      refine w3 G' H' cls dd (g'.weak fun b hb => ?_) hx
      obtain ⟨i, z, k2, k3⟩ := io1 b hb
      exact ⟨by rw [z]; rfl, i, k2, k3⟩
    | ok r =>
      rw [hcall] at w3
      intro G' H' v sub' ntb' g' rp tm
      cases hmt : mt with
      | none =>
        subst hmt
        have hn : ∀ b, ¬ ioOf I.m0 vs = some b := fun b hb => by
          obtain ⟨i, z, _⟩ := io1 b hb
          cases z
        have g2 : Go C.tabs (fun _ => False) G1 H1 G' H' := g'.weak fun b hb => hn b hb
        exact w3 G' H' (F1.step g2 sub' ntb') (g2.weak fun _ z => z.elim) v rp
      | some i =>
        subst hmt
        obtain ⟨a, ha, k2, k3⟩ := iom i rfl
        have g2 : Go C.tabs (fun b => b = a) G1 H1 G' H' := g'.weak fun b hb => by rw [ha] at hb; exact (Option.some.inj hb).symm
        exact w3 G' H' (F1.mutd k2 k3 g2 sub' ntb' (tm a ha)) (g2.weak fun b hb => ⟨rfl, i, k2, by rw [hb]; exact k3⟩) v rp
end
end Ev
/-! any, all over a generator expression whose parts are any expressions of the layer (calls among them) -/
namespace Gx
open PySem PySem.Spec PyProof.Rows L2 GxR GenW

/-- the frame of a generator expression runs -/
abbrev gA (A : Around) (e : Expr) (it : Value) (env : Env) : Around := (A.in1.in1).over (.compLoop e 0 it .none env) []
/-- its context: s, H: the state ahead of its frame; a: the generator's object -/
abbrev gblk (X : Cx) (A' : Around) (s : Shared) (H : Hp) (genv : Env) (fp : List Addr) (pn : List (Addr × Obj)) : Cx :=
  { X with A := A', s_0 := s, H_0 := H, env := genv, outer := X.stack, stack := genv :: X.stack, ex := fp, fn := fun _ => false, pn := pn, xe := fun _ _ => False }

section
variable {X : Cx} {pins : List (Addr × Obj)} {σ : L2.St} {H : Hp} {s : Shared}

theorem gA_frames {A : Around} {elt : Expr} {gs : List Comprehension} {sc : Scope} {pos : Pos} {it : Value} {env : Env} {l : List Env} (h : A.frames = some l) : (gA A (.GeneratorExp elt gs sc pos) it env).frames = some (env :: l) := by
  obtain ⟨a, b, c, d, e⟩ := A
  cases h
  rfl
theorem gA_handled {A : Around} {elt : Expr} {gs : List Comprehension} {sc : Scope} {pos : Pos} {it : Value} {env : Env} : (gA A (.GeneratorExp elt gs sc pos) it env).handled = A.handled := rfl
theorem gA_depth {A : Around} {elt : Expr} {gs : List Comprehension} {sc : Scope} {pos : Pos} {it : Value} {env : Env} : (gA A (.GeneratorExp elt gs sc pos) it env).depth = A.depth + 1 := rfl
theorem gA_units {A : Around} {elt : Expr} {gs : List Comprehension} {sc : Scope} {pos : Pos} {it : Value} {env : Env} : (gA A (.GeneratorExp elt gs sc pos) it env).units ≤ A.units + 8 := by
  obtain ⟨a, b, c, d, e⟩ := A
  show e + 1 + 1 + 0 + 3 ≤ e + 8
  omega
theorem gA_room {A : Around} {k : Nat} {elt : Expr} {gs : List Comprehension} {sc : Scope} {pos : Pos} {it : Value} {env : Env} (r : Room (k + 1) A) : Room k (gA A (.GeneratorExp elt gs sc pos) it env) :=
  ⟨r.hd, by have := r.dp; rw [gA_depth]; omega, by have := r.un; have h := gA_units (A := A) (elt := elt) (gs := gs) (sc := sc) (pos := pos) (it := it) (env := env); omega⟩

/-- the generator expression's block starts: its frame stands at s4's end, its object behind it -/
theorem block_startG {scope : Scope} {own : List (Str × Nat)} {fp : List Addr} {A' : Around} {code : Value} {it : Value} {go : Obj} {h' : Heap} {G : Array GenState} {tk : Nat} (I : Inv X pins σ H s) (ok : BlkOk X.N X.env.scope scope own) (hN : X.N.Nodup) (hfp : ∀ b ∈ fp, FpOk X pins H b ∧ b < s.heap.objs.size)
    (hcell : ∀ y ∈ scope.names, y.2 ≠ .cell) (hA : A'.frames = some (genEnv scope (cloFrom X.env.cells scope.names []) s.heap.objs.size code builtinsNs X.env :: X.stack)) (hA2 : A'.handled = none)
    (hn' : h'.Ns s.heap.objs.size (fun y => if y = ".0" then some it else none)) (hsb : Heap.SameBut s.heap.objs.size (s.heap.push { cls := .type "frame", data := .dict #[] }) h') (hG : AllBare G) (hgo : ∀ v, go.data ≠ .cell v) (hgp : (h'.push go).get? h'.objs.size = some go) :
    Inv (gblk X A' s H (genEnv scope (cloFrom X.env.cells scope.names []) s.heap.objs.size code builtinsNs X.env) fp [(h'.objs.size, go)]) [] (wipe σ (own.map (·.2))) H { s with gens := G, toks := tk, heap := h'.push go } := by
  have hfree : ∀ y ∈ scope.names, y.2 = .free → ∃ c, X.env.cells.lookup y.1 = some c := fun y hy e => by
    rcases ok.free y hy e with k | k
    · exact I.ok.has _ (.inl k)
    · exact I.ok.has _ (.inr k)
  have kp0 : ∀ b o, s.heap.get? b = some o → h'.get? b = some o := fun b o e => hsb.extBut b o (Nat.ne_of_lt (Heap.lt_size e)) (Heap.get?_push_of_some _ e)
  have kp : ∀ b o, s.heap.get? b = some o → (h'.push go).get? b = some o := fun b o e => Heap.get?_push_of_some _ (kp0 b o e)
  have hsz : h'.objs.size = s.heap.objs.size + 1 := by rw [hsb.1, Heap.size_push]
  generalize hcenv : genEnv scope (cloFrom X.env.cells scope.names []) s.heap.objs.size code builtinsNs X.env = cenv at hA
  have hL : cenv.locals = s.heap.objs.size := by rw [← hcenv]; rfl
  have hF : cenv.frame = some cenv.locals := by rw [← hcenv]; rfl
  have hcl : cenv.cells = cloFrom X.env.cells scope.names [] := by rw [← hcenv]; rfl
  have hsc : cenv.scope = scope := by rw [← hcenv]; rfl
  have cm : ∀ {y c}, cenv.cells.lookup y = some c → X.env.cells.lookup y = some c ∧ c < s.heap.objs.size := fun {y c} e => by
    rw [hcl] at e
    rcases cloFrom_mem (PySem.mem_of_lookup e) with hm | ⟨h1, h2⟩
    · cases hm
    · obtain ⟨c1, hc⟩ := hfree _ h1 rfl
      have hc' : X.env.cells.lookup y = some c1 := hc
      have e2 : c = c1 := by rw [h2, hc'] <;> rfl
      obtain ⟨w', z⟩ := I.cell _ _ hc'
      rw [e2]
      exact ⟨hc', z.lt⟩
  have look : ∀ {y}, scope.names.lookup y = some .free → ∃ c, cenv.cells.lookup y = some c := fun {y} hl => by
    have hy : (y, NameKind.free) ∈ scope.names := PySem.mem_of_lookup hl
    rw [hcl]
    exact mem_lookup (cloFrom_has (cells := X.env.cells) (acc := []) hy)
  have okB : (gblk X A' s H cenv fp [(h'.objs.size, go)]).Ok := by
    refine ⟨I.ok.mod, by show cenv.scope.kind = _; rw [hsc]; exact ok.kind, by show cenv.globals = _; rw [← hcenv]; exact I.ok.glob, by show cenv.builtins = _; rw [← hcenv]; rfl, by show s.heap.objs.size ≤ cenv.locals; rw [hL]; exact Nat.le_refl _,
      fun y z c e1 e2 => I.ok.inj _ _ _ (cm e1).1 (cm e2).1, fun y hy => ?_, fun y c z e => absurd (show false = true from z) Bool.false_ne_true, fun _ => hA2, hA, .inr ⟨rfl, hF⟩, fun b hb => ⟨?_, fun y c e z => ?_⟩, I.bs, Nat.le_trans I.ok.bsz I.sz, fun b o e hb => ?_, fun b hb z => ?_, I.stack, I.stkFree⟩
    · have hy : scope.names.lookup y = some .cell ∨ scope.names.lookup y = some .free := by
        have hy' : cenv.kindOf y = some .cell ∨ cenv.kindOf y = some .free := hy
        unfold Env.kindOf at hy'
        rw [hsc] at hy'
        exact hy'
      rcases hy with hy | hy
      · exact absurd rfl (hcell _ (PySem.mem_of_lookup hy))
      · exact look hy
    · show b ≠ cenv.locals
      rw [hL]; exact Nat.ne_of_lt (hfp b hb).2
    · exact (hfp b hb).1.2.2.2.2.1 y c (cm e).1 z
    · rcases (hfp b hb).1.2.2.2.1 with z | z
      · exact I.ok.noex b o e z
      · exact absurd (Nat.lt_of_lt_of_le (Heap.lt_size e) (Nat.le_trans I.ok.bsz z)) (Nat.lt_irrefl _)
    · rcases List.mem_cons.mp (I.stkSub b z) with z | z
      · exact (hfp b hb).1.2.1 z
      · exact (hfp b hb).1.2.2.1 z
  refine ⟨okB, rfl, hG, Un.kept kp, ⟨fun y => if y = ".0" then some it else none, ?_, fun i y av e1 e2 e3 => ?_⟩, fun y c e => ?_, ?_, fun y c e => ?_, fun p hp => ?_, I.hok.kept kp, by rw [wipe_length]; exact I.len⟩
  · show Heap.Ns _ cenv.locals _
    rw [hL]
    exact hn'.push go
  · obtain ⟨e2, hne⟩ := wipe_some e2
    have nown : ∀ k, scope.names.lookup y = some k → ¬ (k = .local ∨ k = .cell) := fun k hk hh => by
      rcases ok.own _ (PySem.mem_of_lookup hk) hh with e' | e'
      · obtain ⟨p, hp, hpy⟩ := List.mem_map.mp e'
        have e3 := ok.ix p hp
        have : p.1 = y := hpy
        rw [this] at e3
        exact hne (List.mem_map.mpr ⟨p, hp, nodup_ix hN e3 e1⟩)
      · exact e' (List.mem_of_getElem? e1)
    have e3 : Vis scope y := by
      have e3' : Vis cenv.scope y := e3
      rw [hsc] at e3'
      exact e3'
    have hfr : scope.names.lookup y = some .free := by
      rcases e3 with e3 | e3 | e3
      · exact absurd (.inl rfl) (nown _ e3)
      · exact absurd (.inr rfl) (nown _ e3)
      · exact e3
    obtain ⟨m, hn, hl⟩ := I.loc
    have hvis : Vis X.env.scope y := (ok.free _ (PySem.mem_of_lookup hfr) rfl).elim (fun k => .inr (.inl k)) (fun k => .inr (.inr k))
    obtain ⟨w', r, q⟩ := hl i y av e1 e2 hvis
    obtain ⟨c, h1⟩ := look hfr
    refine ⟨w', r, .inr ⟨.inr (by show cenv.scope.names.lookup y = _; rw [hsc]; exact hfr), c, h1, ?_⟩⟩
    rcases q with ⟨k, _⟩ | ⟨_, c', e', z⟩
    · have k : X.env.scope.names.lookup y = some .local := k
      rcases ok.free _ (PySem.mem_of_lookup hfr) rfl with k' | k' <;> rw [show X.env.scope.names.lookup y = _ from k'] at k <;> cases k
    · rw [(cm h1).1] at e'; cases e'
      exact z.keeps kp
  · obtain ⟨w', z⟩ := I.cell y c (cm e).1
    exact ⟨w', z.keeps kp⟩
  · show H cenv.locals = none
    rw [hL]; exact I.hok.fresh (Nat.le_refl _)
  · exact I.freeC y c (cm e).1
  · have hp' : p = (h'.objs.size, go) := by simpa using hp
    subst hp'
    refine ⟨hgp, I.hok.fresh (by rw [hsz]; exact Nat.le_succ _), ?_, ?_, hgo⟩
    · show h'.objs.size ≠ cenv.locals
      rw [hL, hsz]; exact Nat.succ_ne_self _
    · show h'.objs.size ∉ frs X.stack
      intro z
      rcases List.mem_cons.mp (I.stkSub _ z) with z | z
      · have h2 := I.lt
        have h3 : h'.objs.size = X.env.locals := z
        rw [← h3, hsz] at h2
        exact Nat.lt_irrefl _ (Nat.lt_of_succ_lt h2)
      · exact I.nofs (by rw [hsz]; exact Nat.le_succ _) z

/-- nothing but the table of generators has changed -/
theorem Inv.gens {s' : Shared} (I : Inv X pins σ H s) (hh : s'.heap = s.heap) (ho : s'.os = s.os) (hg : AllBare s'.gens) : Inv X pins σ H s' :=
  I.call' (ch := []) ho (by rw [hh]; exact Un.refl) (by rw [hh]; exact I.hok) hg fun b hb => absurd hb (by simp)

theorem bare_set {s : Shared} {g : Nat} {x : GenState} (h : AllBare s.gens) (hx : x.bare = true) : AllBare (s.setGen g x).gens := fun y hy => by
  have hy' : y ∈ s.gens.setIfInBounds g x := hy
  rcases Array.mem_or_eq_of_mem_setIfInBounds hy' with h1 | h1
  · exact h y h1
  · rw [h1]; exact hx

/-- what holds where the generator hands out a truth value: c goes on, !c ends the walk -/
def GYP (Xg : Cx) (σw : L2.St) (g : Nat) (c : Bool) (Qf : Hp → Prop) : Protocol := fun _ _ v s kap =>
  ∃ k H, v = .bool k ∧ g < s.gens.size ∧ Inv Xg [] σw H s ∧ (k = !c → Qf H) ∧
    (k = c → ∀ s'' : Shared, s''.heap = s.heap → s''.os = s.os → AllBare s''.gens → g < s''.gens.size → kap (.send .none) s'')
def GRP (Xg : Cx) (σw : L2.St) (g : Nat) (Qt : Hp → Prop) : Nat → Shared → Shared → Prop := fun _ _ s => g < s.gens.size ∧ ∃ H, Inv Xg [] σw H s ∧ Qt H

section
variable {A' : Around} {s4 : Shared} {H2 : Hp} {genv : Env} {fp : List Addr} {pn : List (Addr × Obj)} {elt tg iter : Expr} {ifs : List Expr} {scope : Scope} {pos : Pos} {it : Addr} {tn : Nat → Heap → Prop} {J : It} {g : TG} {tt : TT} {te : TE} {vs : List Nat} {gi : Nat} {c : Bool} {Qt Qf : Hp → Prop}
/-- the loop of the generator's code. W: the invariant by the turn and a measure -/
theorem seg_loopG (hc : X.calm = true) (W : Nat → Nat → Hp → Prop)
    (hA : A' = gA X.A (.GeneratorExp elt [⟨tg, iter, ifs, 0⟩] scope pos) (.ref it) genv) (hco : scope.isCoroutine = false) (hgs : genv.scope = scope)
    (T : Turn X.prog X.w X.K tg J fp it tn) (hpn : ∀ p ∈ pn, ∀ b ∈ fp, p.1 ≠ b)
    (pg : PG (gblk X A' s4 H2 genv fp pn) tg g) (pt : PTs (gblk X A' s4 H2 genv fp pn) ifs tt) (pe : PE (gblk X A' s4 H2 genv fp pn) elt te)
    (turn : ∀ i m H, W i m H → (J.stop i H ∧ Qt H) ∨ (J.go i H ∧ ∃ Nx : Hp → Prop, (∀ H', Nx H' → ∃ m', m' < m ∧ W (i + 1) m' H') ∧ ∀ x H', J.yld i H x H' → g x (wipe σ vs) H' fun σ2 H3 => wipe σ2 vs = wipe σ vs ∧ tt σ2 H3 fun b H4 =>
      if b = true then te σ2 H4 fun y H5 => ∃ k, y = .bl k ∧ (k = c → Nx H5) ∧ (k = !c → Qf H5) else Nx H4)) :
    ∀ (m n i : Nat) (H : Hp) (s₀ s : Shared), m < n → W i m H → Inv (gblk X A' s4 H2 genv fp pn) [] (wipe σ vs) H s → tn i s.heap → (∀ b ∈ fp, H b = none) → gi < s.gens.size →
      Seg (model X.prog X.w) X.A.in1.in1 (fun n s₀ r s₁ => r = .ok .next ∧ GRP (gblk X A' s4 H2 genv fp pn) (wipe σ vs) gi Qt n s₀ s₁) (GYP (gblk X A' s4 H2 genv fp pn) (wipe σ vs) gi c Qf) n s₀
        (.compLoop (.GeneratorExp elt [⟨tg, iter, ifs, 0⟩] scope pos) 0 (.ref it) .none genv)
        ((model X.prog X.w).den (.compLoop (.GeneratorExp elt [⟨tg, iter, ifs, 0⟩] scope pos) 0 (.ref it) .none genv)) [] s := by
  have stat : ∀ {σ' : L2.St} {H' : Hp} {s' : Shared}, Inv (gblk X A' s4 H2 genv fp pn) [] σ' H' s' → (∀ b ∈ fp, H' b = none) → ∀ b ∈ fp, FpOk (gblk X A' s4 H2 genv fp pn) [] H' b := fun {σ' H' s'} I' hn b hb =>
    ⟨hn b hb, (I'.ok.exf b hb).1, I'.ok.exfs b hb, .inl hb, fun x c e => (I'.ok.exf b hb).2 x c e, fun p hp => hpn p (by simpa using hp) b hb⟩
  intro m
  induction m using Nat.strongRecOn with
  | ind m ih =>
    intro n i H s₀ s hmn w I st nfp hgi
    show Seg _ _ _ _ _ s₀ _ ((compTurn (.GeneratorExp elt [⟨tg, iter, ifs, 0⟩] scope pos) 0 (.ref it) .none genv).onRaise (leaving genv)) [] s
    rw [compTurn_gen, Sem.onRaise_eq_wrap]
    refine seg_bind_wrap (wpAny_standAt ?_)
    have eA : (gblk X A' s4 H2 genv fp pn).A = (X.A.in1.in1).over (.compLoop (.GeneratorExp elt [⟨tg, iter, ifs, 0⟩] scope pos) 0 (.ref it) .none genv) [] := hA
    rcases turn i m H w with ⟨stop, qq⟩ | ⟨go, Nx, hNx, step⟩
    · have td := T.done (gblk X A' s4 H2 genv fp pn) rfl rfl rfl hc i [] s _ H (fun _ _ => False) I (stat I nfp) st stop
      rw [eA] at td
      refine seg_bind_wrap (wpAny_gsz (n := gi + 1) hgi (thnF td fun r s6 ⟨hr, I6⟩ => ?_))
      subst hr
      intro hz
      exact seg_end (.ok .next) ⟨rfl, hz, H, I6, qq⟩
    · have ti := T.item (gblk X A' s4 H2 genv fp pn) rfl rfl rfl hc i [] s _ H (fun _ _ => False) I (stat I nfp) st go
      rw [eA] at ti
      refine seg_bind_wrap (wpAny_gsz (n := gi + 1) hgi (thnF ti fun r s6 ⟨u, hr, h6⟩ => ?_))
      subst hr
      intro hz6
      refine seg_bind_wrap (wpAny_gsz (n := gi + 1) hz6 (thnF h6 fun _ s7 ⟨x, H7, I7, r7, y7, st7, n7⟩ => ?_))
      intro hz7
      have I7' := I7.pinned (stat I7 n7) (T.obj _ _ st7)
      have hg8 := pg.run _ s7 _ H7 x u _ I7' r7 (step x H7 y7)
      rw [eA] at hg8
      refine seg_bind_wrap (wpAny_gsz (n := gi + 1) hz7 (thnF hg8 fun _ s8 ⟨σ8, H8, I8, hw8, q8⟩ => ?_))
      intro hz8
      have ht9 := pt.run _ s8 σ8 H8 _ I8 q8
      rw [eA] at ht9
      refine seg_bind_wrap (wpAny_gsz (n := gi + 1) hz8 (thnF ht9 fun b s9 ⟨H9, I9, q9⟩ => ?_))
      intro hz9
      -- the turn's end
      have fin : ∀ {s' : Shared} {H' : Hp}, Inv (gblk X A' s4 H2 genv fp pn) ([] ++ pinsAt fp s7.heap) σ8 H' s' → Inv (gblk X A' s4 H2 genv fp pn) [] (wipe σ vs) H' s' ∧ tn (i + 1) s'.heap ∧ (∀ b ∈ fp, H' b = none) := fun {s' H'} I' => by
        have pin' : ∀ b ∈ fp, ∀ o, s7.heap.get? b = some o → s'.heap.get? b = some o ∧ H' b = none := fun b hb o e =>
          let z := I'.pin (b, o) (List.mem_append_right _ (List.mem_append_right _ (mem_pinsAt hb e)))
          ⟨z.1, z.2.1⟩
        have hl : (wipe σ vs).length = σ8.length := by rw [← hw8, wipe_length]
        refine ⟨(I'.unpinned (pins := [])).weak hl (fun j v e => ?_), T.keep _ _ _ st7 fun b hb o e => (pin' b hb o e).1, fun b hb => ?_⟩
        · rw [← hw8] at e
          exact (wipe_some e).1
        · obtain ⟨o, e, _⟩ := T.obj _ _ st7 b hb
          exact (pin' b hb o e).2
      cases b with
      | false =>
        simp only [Bool.false_eq_true, if_false] at q9 ⊢
        obtain ⟨m', hm, w'⟩ := hNx H9 q9
        obtain ⟨I10, st10, n10⟩ := fin I9
        exact seg_again rfl (ih m' hm n (i + 1) H9 s₀ s9 (by omega) w' I10 st10 n10 hz9)
      | true =>
        simp only [if_true] at q9 ⊢
        have hy : ∀ v, yieldOut genv v = yieldValue v := fun v => by simp only [yieldOut, hgs, hco, Bool.false_eq_true, if_false]
        simp only [hy]
        rw [Sem.bind_eq_wrap', Sem.bind_eq_wrap', Sem.wrap_wrap, Sem.wrap_wrap]
        have he10 := pe.run _ s9 σ8 H9 _ I9 q9
        rw [eA] at he10
        refine seg_wrap (wpAny_gsz (n := gi + 1) hz9 (thnF he10 fun z s10 ⟨yv, H10, I10, r10, k, ek, q1, q2⟩ => ?_))
        intro hz10
        subst ek
        obtain rfl : z = Value.bool k := r10
        obtain ⟨I11, st11, n11⟩ := fin I10
        obtain ⟨n', rfl⟩ : ∃ n', n = n' + 1 := ⟨n - 1, by omega⟩
        refine seg_at (seg_yield rfl rfl rfl ⟨k, H10, rfl, hz10, I11, q2, fun hk s'' e1 e2 e3 e4 => ?_⟩)
        obtain ⟨m', hm, w'⟩ := hNx H10 (q1 hk)
        exact seg_again rfl (ih m' hm n' (i + 1) H10 s'' s'' (by omega) w' (Inv.gens I11 e1 e2 e3) (T.keep _ _ _ st11 fun b _ o e => by rw [e1]; exact e) n11 e4)

/-- the generator's code from its start -/
theorem seg_startG (hc : X.calm = true) (W : Nat → Nat → Hp → Prop)
    (hA : A' = gA X.A (.GeneratorExp elt [⟨tg, iter, ifs, 0⟩] scope pos) (.ref it) genv) (hco : scope.isCoroutine = false) (hgs : genv.scope = scope)
    (T : Turn X.prog X.w X.K tg J fp it tn) (hpn : ∀ p ∈ pn, ∀ b ∈ fp, p.1 ≠ b)
    (pg : PG (gblk X A' s4 H2 genv fp pn) tg g) (pt : PTs (gblk X A' s4 H2 genv fp pn) ifs tt) (pe : PE (gblk X A' s4 H2 genv fp pn) elt te)
    (turn : ∀ i m H, W i m H → (J.stop i H ∧ Qt H) ∨ (J.go i H ∧ ∃ Nx : Hp → Prop, (∀ H', Nx H' → ∃ m', m' < m ∧ W (i + 1) m' H') ∧ ∀ x H', J.yld i H x H' → g x (wipe σ vs) H' fun σ2 H3 => wipe σ2 vs = wipe σ vs ∧ tt σ2 H3 fun b H4 =>
      if b = true then te σ2 H4 fun y H5 => ∃ k, y = .bl k ∧ (k = c → Nx H5) ∧ (k = !c → Qf H5) else Nx H4))
    {m : Nat} {H : Hp} {s₀ s : Shared} (w : W 0 m H) (I : Inv (gblk X A' s4 H2 genv fp pn) [] (wipe σ vs) H s) (st : tn 0 s.heap) (nfp : ∀ b ∈ fp, H b = none) (hgi : gi < s.gens.size) :
      Seg (model X.prog X.w) X.A.in1.in1 (fun n s₀ r s₁ => r = .ok .next ∧ GRP (gblk X A' s4 H2 genv fp pn) (wipe σ vs) gi Qt n s₀ s₁) (GYP (gblk X A' s4 H2 genv fp pn) (wipe σ vs) gi c Qf) (m + 1) s₀
        (.compStart (.GeneratorExp elt [⟨tg, iter, ifs, 0⟩] scope pos) 0 (.ref it) .none genv)
        ((model X.prog X.w).den (.compStart (.GeneratorExp elt [⟨tg, iter, ifs, 0⟩] scope pos) 0 (.ref it) .none genv)) [] s := by
  have loop := seg_loopG (vs := vs) (σ := σ) (gi := gi) (c := c) (Qt := Qt) (Qf := Qf) hc W hA hco hgs T hpn pg pt pe turn m (m + 1) 0 H s₀ s (Nat.lt_succ_self m) w I st nfp hgi
  show Seg _ _ _ _ _ s₀ _ ((compStart (.GeneratorExp elt [⟨tg, iter, ifs, 0⟩] scope pos) 0 (.ref it) .none genv).onRaise (leaving genv)) [] s
  unfold compStart
  rw [Sem.onRaise_eq_wrap]
  show Seg _ _ _ _ _ s₀ _ ((ask >>= _).wrap _ _ _ _) [] s
  refine seg_bind_wrap (wpAny_askSetting ?_)
  split
  · exact seg_again rfl loop
  · first
      | exact seg_bind_wrap (wpAny_rule (seg_bind_wrap (wpAny_standAt (seg_bind_wrap (T.self _ 0 s _ _ st (seg_again rfl loop))))))
      | (refine seg_bind_wrap (wpAny_rule ?_); show Seg _ _ _ _ _ s₀ _ ((standAt iter.pos >>= _).wrap _ _ _ _) [] s; exact seg_bind_wrap (wpAny_standAt (seg_bind_wrap (T.self _ 0 s _ _ st (seg_again rfl loop)))))
end

/-! ### the consumers -/
section
variable {Xg : Cx} {σw : L2.St} {a : Addr} {gi : Nat} {c : Bool} {Qt Qf : Hp → Prop} {A : Around} {P : Program} {w : World}
/-- the generator between two turns -/
def Waits (P : Program) (w : World) (A : Around) (Xg : Cx) (σw : L2.St) (gi : Nat) (c : Bool) (Qt Qf : Hp → Prop) (n : Nat) (s : Shared) : Prop :=
  gi < s.gens.size ∧ (∃ H, Inv Xg [] σw H s) ∧ ∃ gs, s.gens[gi]? = some gs ∧ ∀ s'' : Shared, s''.heap = s.heap → s''.os = s.os → AllBare s''.gens → gi < s''.gens.size →
    gs.Goes (model P w) A.in1.in1 (fun n s₀ r s₁ => r = .ok .next ∧ GRP Xg σw gi Qt n s₀ s₁) (GYP Xg σw gi c Qf) n (.send .none) s''
/-- one draw -/
theorem next_gen {n : Nat} {s : Shared} {Q : Option Value → Shared → Prop} {E : Value → Shared → Prop} (hh : A.handled = none) (hroom : A.depth < recursionLimit) (hgen : ∀ {H : Hp} {s : Shared}, Inv Xg [] σw H s → s.heap.IsGen a gi)
    (x : Waits P w A Xg σw gi c Qt Qf n s)
    (hT : ∀ H s', Inv Xg [] σw H s' → Qt H → Q none s')
    (hY : ∀ k H s', Inv Xg [] σw H s' → (k = !c → Qf H) → (k = c → ∃ m, n = m + 1 ∧ Waits P w A Xg σw gi c Qt Qf m s') → Q (some (.bool k)) s') :
    wpAny (model P w) A.in1 (pyNext (.ref a)) Q E s := by
  obtain ⟨hz, ⟨H, I⟩, gs, hgs, hgo⟩ := x
  have szset : ∀ (s : Shared) (x : GenState), (s.setGen gi x).gens.size = s.gens.size := fun s x => setGen_size s gi x
  refine wpAny_pyNext_genexpQ (P := GRP Xg σw gi Qt) (n := n) (Y := GYP Xg σw gi c Qf) hh I.nolimit hroom (hgen I) hgs (hgo _ rfl rfl (bare_set I.bare rfl) (by rw [szset]; exact hz)) (fun v s₁ gs' hb hv => ?_) (fun s₁ hp h' hk => ?_)
  · obtain ⟨k, H1, rfl, hz1, I1, q1, q2⟩ := hv
    have I2 : Inv Xg [] σw H1 (s₁.setGen gi gs') := Inv.gens I1 rfl rfl (bare_set I1.bare hb)
    refine hY k H1 _ I2 q1 fun hkc => ?_
    cases n with
    | zero => exact (q2 hkc s₁ rfl rfl I1.bare hz1).elim
    | succ m =>
      refine ⟨m, rfl, by rw [szset]; exact hz1, ⟨H1, I2⟩, gs', ?_, fun s'' e1 e2 e3 e4 => q2 hkc s'' e1 e2 e3 e4⟩
      show (s₁.gens.setIfInBounds gi gs')[gi]? = some gs'
      simp [hz1]
  · obtain ⟨hz1, H1, I1, q⟩ := hp
    have I2 : Inv Xg [] σw H1 (s₁.setGen gi .finished) := Inv.gens I1 rfl rfl (bare_set I1.bare rfl)
    exact hT H1 _ (I2.kept (t' := (s₁.setGen gi .finished).toks) hk) q
theorem all_loopG (hh : A.handled = none) (hroom : A.depth < recursionLimit) (hgen : ∀ {H : Hp} {s : Shared}, Inv Xg [] σw H s → s.heap.IsGen a gi) {R : Result → Shared → Prop}
    (hT : ∀ H s', Inv Xg [] σw H s' → Qt H → R (.ok (.ret (.bool true))) s') (hF : ∀ H s', Inv Xg [] σw H s' → Qf H → R (.ok (.ret (.bool false))) s') :
    ∀ (n : Nat) (s : Shared), Waits P w A Xg σw gi true Qt Qf n s → codeAny (model P w) A (.builtin "all.loop" ⟨[.ref a], []⟩) R s := by
  intro n
  induction n with
  | zero =>
    intro s x
    refine codeAny_builtin F.entry_all_loop ?_
    rw [Around.under_plainId F.plain_all_loop _]
    show wpAny _ A.in1 (pyNext (.ref a) >>= _) _ _ s
    refine wpAny_bind (next_gen hh hroom hgen x (fun H s' I q => ?_) fun k H s' I q1 q2 => ?_)
    · exact wpAny_bind (wpAny_rule (wpAny_pure (hT H s' I q)))
    · refine wpAny_bind (wpAny_holding (wpAny_truthy_bool ?_))
      refine wpAny_bind (wpAny_letGo ?_)
      cases k with
      | true => obtain ⟨m, e, _⟩ := q2 rfl; cases e
      | false =>
        simp only [Bool.false_eq_true, if_false]
        exact wpAny_bind (wpAny_rule (wpAny_pure (hF H s' I (q1 rfl))))
  | succ n ih =>
    intro s x
    refine codeAny_builtin F.entry_all_loop ?_
    rw [Around.under_plainId F.plain_all_loop _]
    show wpAny _ A.in1 (pyNext (.ref a) >>= _) _ _ s
    refine wpAny_bind (next_gen hh hroom hgen x (fun H s' I q => ?_) fun k H s' I q1 q2 => ?_)
    · exact wpAny_bind (wpAny_rule (wpAny_pure (hT H s' I q)))
    · refine wpAny_bind (wpAny_holding (wpAny_truthy_bool ?_))
      refine wpAny_bind (wpAny_letGo ?_)
      cases k with
      | true =>
        obtain ⟨m, e, x'⟩ := q2 rfl
        cases e
        simp only [if_true]
        exact wpAny_pure ⟨plainId_quiet F.plain_all_loop _, ih s' x'⟩
      | false =>
        simp only [Bool.false_eq_true, if_false]
        exact wpAny_bind (wpAny_rule (wpAny_pure (hF H s' I (q1 rfl))))
theorem any_loopG (hh : A.handled = none) (hroom : A.depth < recursionLimit) (hgen : ∀ {H : Hp} {s : Shared}, Inv Xg [] σw H s → s.heap.IsGen a gi) {R : Result → Shared → Prop}
    (hT : ∀ H s', Inv Xg [] σw H s' → Qt H → R (.ok (.ret (.bool false))) s') (hF : ∀ H s', Inv Xg [] σw H s' → Qf H → R (.ok (.ret (.bool true))) s') :
    ∀ (n : Nat) (s : Shared), Waits P w A Xg σw gi false Qt Qf n s → codeAny (model P w) A (.builtin "any.loop" ⟨[.ref a], []⟩) R s := by
  intro n
  induction n with
  | zero =>
    intro s x
    refine codeAny_builtin F.entry_any_loop ?_
    rw [Around.under_plainId F.plain_any_loop _]
    show wpAny _ A.in1 (pyNext (.ref a) >>= _) _ _ s
    refine wpAny_bind (next_gen hh hroom hgen x (fun H s' I q => ?_) fun k H s' I q1 q2 => ?_)
    · exact wpAny_bind (wpAny_rule (wpAny_pure (hT H s' I q)))
    · refine wpAny_bind (wpAny_holding (wpAny_truthy_bool ?_))
      refine wpAny_bind (wpAny_letGo ?_)
      cases k with
      | false => obtain ⟨m, e, _⟩ := q2 rfl; cases e
      | true =>
        simp only [if_true]
        exact wpAny_bind (wpAny_rule (wpAny_pure (hF H s' I (q1 rfl))))
  | succ n ih =>
    intro s x
    refine codeAny_builtin F.entry_any_loop ?_
    rw [Around.under_plainId F.plain_any_loop _]
    show wpAny _ A.in1 (pyNext (.ref a) >>= _) _ _ s
    refine wpAny_bind (next_gen hh hroom hgen x (fun H s' I q => ?_) fun k H s' I q1 q2 => ?_)
    · exact wpAny_bind (wpAny_rule (wpAny_pure (hT H s' I q)))
    · refine wpAny_bind (wpAny_holding (wpAny_truthy_bool ?_))
      refine wpAny_bind (wpAny_letGo ?_)
      cases k with
      | false =>
        obtain ⟨m, e, x'⟩ := q2 rfl
        cases e
        simp only [Bool.false_eq_true, if_false]
        exact wpAny_pure ⟨plainId_quiet F.plain_any_loop _, ih s' x'⟩
      | true =>
        simp only [if_true]
        exact wpAny_bind (wpAny_rule (wpAny_pure (hF H s' I (q1 rfl))))
end
end

/-! ### the rule -/
/-- the code object at P's table may have got one more entry, at gpos; nothing else has changed -/
def TabX (P : Addr) (gpos : Pos) (H H' : Hp) : Prop :=
  (∃ ps ps', H P = some (.tbl ps) ∧ H' P = some (.tbl ps') ∧ TriplesOk ps'.toList ∧ ∀ (p' : Pos) cv, (p'.line ≠ gpos.line ∨ p'.col ≠ gpos.col) → codeAmong p' ps'.toList = some cv → codeAmong p' ps.toList = some cv) ∧ ∀ b, b ≠ P → H' b = H b
theorem among_new {pos p' : Pos} {c cv : Value} (l : List Value) (h : TriplesOk l) (hne : p'.line ≠ pos.line ∨ p'.col ≠ pos.col) (hc : codeAmong p' (l ++ [rawInt pos.line, rawInt pos.col, c]) = some cv) : codeAmong p' l = some cv := by
  fun_induction TriplesOk l with
  | case1 =>
    simp only [List.nil_append, rawInt, codeAmong] at hc
    split at hc
    · rename_i q
      simp only [Bool.and_eq_true, beq_iff_eq, Int.natCast_inj] at q
      rcases hne with z | z
      · exact absurd q.1.symm z
      · exact absurd q.2.symm z
    · cases hc
  | case2 a t b u x rest ih =>
    simp only [List.cons_append, codeAmong] at hc ⊢
    split at hc
    · rename_i q
      rw [if_pos q]
      exact hc
    · rename_i q
      rw [if_neg q]
      exact ih h hc
  | case3 l h1 h2 => exact h.elim
def tGen (P : Addr) (gpos : Pos) (wi : TI) (g : TG) (tt : TT) (te : TE) (vs : List Nat) (c : Bool) : TE := fun σ H Q => wi σ H fun J H1 => TabG H1 P ∧ ∀ H2, TabX P gpos H1 H2 →
  ∃ W : Nat → Nat → Hp → Prop, (∃ m, W 0 m H2) ∧ ∀ i m H, W i m H →
    (J.stop i H ∧ Q (.bl c) H) ∨ (J.go i H ∧ ∃ Nx : Hp → Prop, (∀ H', Nx H' → ∃ m', m' < m ∧ W (i + 1) m' H') ∧ ∀ x H', J.yld i H x H' → g x (wipe σ vs) H' fun σ2 H3 => wipe σ2 vs = wipe σ vs ∧ tt σ2 H3 fun b H4 =>
      if b = true then te σ2 H4 fun y H5 => ∃ k, y = .bl k ∧ (k = c → Nx H5) ∧ (k = !c → Q (.bl (!c)) H5) else Nx H4)

section
variable {X : Cx} {pins : List (Addr × Obj)} {σ : L2.St} {H : Hp} {s : Shared}
/-- what a generator expression's making leaves -/
theorem gen_make {cA P : Addr} {elt tg iter : Expr} {ifs : List Expr} {gpos : Pos} {scope : Scope} {own : List (Str × Nat)} {wi : TI} {g : TG} {tt : TT} {te : TE} {k : Nat} {c : Bool} {Q : VK} {Q' : Value → Shared → Prop}
    (hr : Room (k + 1) X.A) (hc : X.calm = true) (hN : X.N.Nodup) (TB : TabB X.base X.mg cA P) (hcode : X.env.code = .ref cA) (ok : BlkOk X.N X.env.scope scope own) (hcell : ∀ y ∈ scope.names, y.2 ≠ .cell) (h0 : scope.names.lookup (".0" : Str) = some NameKind.local) (hco : scope.isCoroutine = false)
    (hi : PI X tg iter wi)
    (hg : ∀ (A' : Around) (s : Shared) (H : Hp) (C : Addr) (code : Value) (fp : List Addr) (pn : List (Addr × Obj)), PG (gblk X A' s H (genEnv scope (cloFrom X.env.cells scope.names []) C code builtinsNs X.env) fp pn) tg g)
    (ht : ∀ (A' : Around) (s : Shared) (H : Hp) (C : Addr) (code : Value) (fp : List Addr) (pn : List (Addr × Obj)), Room k A' → PTs (gblk X A' s H (genEnv scope (cloFrom X.env.cells scope.names []) C code builtinsNs X.env) fp pn) ifs tt)
    (he : ∀ (A' : Around) (s : Shared) (H : Hp) (C : Addr) (code : Value) (fp : List Addr) (pn : List (Addr × Obj)), Room k A' → PE (gblk X A' s H (genEnv scope (cloFrom X.env.cells scope.names []) C code builtinsNs X.env) fp pn) elt te)
    (hs : ∀ v, genFold iter X.env v = pure v) (I : Inv X pins σ H s) (h : tGen P gpos wi g tt te (own.map (·.2)) c σ H Q)
    (hQ : ∀ (Xg : Cx) (a : Addr) (gi n : Nat) (s5 : Shared), (∀ {H' : Hp} {s' : Shared}, Inv Xg [] (wipe σ (own.map (·.2))) H' s' → s'.heap.IsGen a gi) → (∀ {H' : Hp} {s' : Shared}, Inv Xg [] (wipe σ (own.map (·.2))) H' s' → Inv X pins σ H' s') →
      Waits X.prog X.w X.A Xg (wipe σ (own.map (·.2))) gi c (Q (.bl c)) (Q (.bl (!c))) n s5 → Q' (.ref a) s5) :
    wpAny (model X.prog X.w) X.A (eval (.GeneratorExp elt [⟨tg, iter, ifs, 0⟩] scope gpos) X.env) Q' X.xe s := by
  have hfree : ∀ y ∈ scope.names, y.2 = .free → ∃ c, X.env.cells.lookup y.1 = some c := fun y hy e => by
    rcases ok.free y hy e with k | k
    · exact I.ok.has _ (.inl k)
    · exact I.ok.has _ (.inr k)
  have hroom : X.A.depth < recursionLimit := by have := hr.dp; omega
  refine wpAny_GeneratorExp_make hco (closure_ok hfree) hcell h0 ok.kind hroom ?_ hs
  refine thn (hi.run pins s σ H _ I h) fun xv s1 hx => thn hx fun itv s2 h2 => ?_
  obtain ⟨it, fp, tn, J, H1, e, I2, T, st2, f2, ⟨⟨ps, hP, ht0⟩, q⟩⟩ := h2
  subst e
  refine ⟨I2.nolimit, ?_⟩
  have hP2 : s2.heap.get? P = some { cls := .none, data := .fields ps } := I2.hok P _ hP
  have cd : PySem.W.CodeHd s2.heap cA P := TB.code.keeps I2.bk
  have fsz : ∀ b ∈ fp, b < s2.heap.objs.size := fun b hb => by
    obtain ⟨o, e, _⟩ := T.obj _ _ st2 b hb
    exact Heap.lt_size e
  have fP : ∀ b ∈ fp, b ≠ P := fun b hb z => by
    have := (f2 b hb).1
    rw [z, hP] at this
    cases this
  have cont : ∀ (code : Value) (h3 : Heap) (tk : Nat) (ps' : Array Value), Heap.ExtBut P s2.heap h3 → s2.heap.objs.size ≤ h3.objs.size → h3.get? P = some { cls := .none, data := .fields ps' } → (∃ more, ps' = ps ++ more) → TriplesOk ps'.toList →
      (∀ (p' : Pos) cv, (p'.line ≠ gpos.line ∨ p'.col ≠ gpos.col) → codeAmong p' ps'.toList = some cv → codeAmong p' ps.toList = some cv) →
      wpAny (model X.prog X.w) X.A (builtinsFor X.env.globals X.env.builtins) (fun bi s₄ =>
        ∀ h', h'.Ns s₄.heap.objs.size (fun y => if y = ".0" then some (.ref it) else none) → Heap.SameBut s₄.heap.objs.size (s₄.heap.push { cls := .type "frame", data := .dict #[] }) h' →
          Q' (.ref h'.objs.size) { s₄ with
            gens := s₄.gens.push (.fresh (.compStart (.GeneratorExp elt [⟨tg, iter, ifs, 0⟩] scope gpos) 0 (.ref it) .none (genEnv scope (cloFrom X.env.cells scope.names []) s₄.heap.objs.size code bi X.env))),
            toks := s₄.toks + 1 + 1 + 1,
            heap := h'.push { cls := .type "generator", data := .fields #[.int s₄.gens.size 0, .str "<genexpr>" (s₄.toks + 1), .str (X.env.qual ++ "<genexpr>") (s₄.toks + 1 + 1)] } }) X.xe { s2 with heap := h3, toks := tk } := by
    intro code h3 tk ps' hx hsz hP3 hmore ht3 hold
    obtain ⟨more, em⟩ := hmore
    have keep3 : ∀ b u, b ≠ P → s2.heap.get? b = some u → h3.get? b = some u := fun b u hb e => hx b u hb e
    have I3 : Inv X pins σ (upd H1 P (.tbl ps')) { s2 with heap := h3, gens := s2.gens, drawn := s2.drawn, toks := tk } := by
      rw [em]
      exact inv_tab I2 hP keep3 (by rw [← em]; exact hP3) I2.bare
    have tx : TabX P gpos H1 (upd H1 P (.tbl ps')) := ⟨⟨ps, ps', hP, upd_same, ht3, hold⟩, fun b hb => upd_ne hb⟩
    obtain ⟨W, ⟨m0, w0⟩, turn⟩ := q _ tx
    obtain ⟨bm, ob, e1, e2, e3, e4, e5, e6, e7, e8⟩ := TB.bm
    refine wpAny_builtinsFor (m := X.mg) (by rw [I2.ok.glob]; exact (I2.mod.glob.keeps I2.bk).extBut hx TB.gP) e1 e2 (keep3 _ _ e4 (I2.bk _ _ e5)) e6 e7 e8 ?_
    intro h' hn' hsb
    generalize hs4 : ({ s2 with heap := h3, toks := tk } : Shared) = s4 at hn' hsb ⊢
    have I4 : Inv X pins σ (upd H1 P (.tbl ps')) s4 := by rw [← hs4]; exact I3
    have h43 : s4.heap = h3 := by rw [← hs4]
    generalize hgo : ({ cls := .type "generator", data := .fields #[.int s4.gens.size 0, .str "<genexpr>" (s4.toks + 1), .str (X.env.qual ++ "<genexpr>") (s4.toks + 1 + 1)] } : Obj) = go
    have hgp : ∀ h : Heap, (h.push go).get? h.objs.size = some go := fun h => by rw [← hgo]; exact Heap.get?_push_size _ rfl
    have hgd : ∀ v, go.data ≠ .cell v := fun v z => by rw [← hgo] at z; cases z
    have hgen : ∀ h : Heap, h.get? h'.objs.size = some go → h.IsGen h'.objs.size s4.gens.size := fun h e => ⟨go, _, _, e, by rw [← hgo], by rw [← hgo], by rw [← hgo]⟩
    have nfp : ∀ b ∈ fp, upd H1 P (.tbl ps') b = none := fun b hb => by rw [upd_ne (fP b hb)]; exact (f2 b hb).1
    have hfp : ∀ b ∈ fp, FpOk X pins (upd H1 P (.tbl ps')) b ∧ b < s4.heap.objs.size := fun b hb => by
      refine ⟨⟨nfp b hb, (f2 b hb).2⟩, ?_⟩
      rw [h43]
      exact Nat.lt_of_lt_of_le (fsz b hb) hsz
    generalize hA' : gA X.A (.GeneratorExp elt [⟨tg, iter, ifs, 0⟩] scope gpos) (.ref it) (genEnv scope (cloFrom X.env.cells scope.names []) s4.heap.objs.size code builtinsNs X.env) = A'
    have I5 := block_startG (A' := A') (code := code) (it := .ref it) (go := go) (h' := h') (G := s4.gens.push (.fresh (.compStart (.GeneratorExp elt [⟨tg, iter, ifs, 0⟩] scope gpos) 0 (.ref it) .none (genEnv scope (cloFrom X.env.cells scope.names []) s4.heap.objs.size code builtinsNs X.env)))) (tk := s4.toks + 1 + 1 + 1)
      I4 ok hN hfp hcell (by rw [← hA']; exact gA_frames I.ok.frames |>.trans (by rfl)) (by rw [← hA']; exact hr.hd) hn' hsb (I4.bare.push rfl) hgd (hgp _)
    have hst5 : tn 0 (h'.push go) := T.keep _ _ _ st2 fun b hb o e => Heap.get?_push_of_some _ (hsb.extBut b o (Nat.ne_of_lt (hfp b hb).2) (Heap.get?_push_of_some _ (by rw [h43]; exact keep3 b o (fP b hb) e)))
    have hrA : Room k A' := by rw [← hA']; exact gA_room hr
    have kp5 : ∀ b o, s4.heap.get? b = some o → (h'.push go).get? b = some o := fun b o e => Heap.get?_push_of_some _ (hsb.extBut b o (Nat.ne_of_lt (Heap.lt_size e)) (Heap.get?_push_of_some _ e))
    have hsz' : h'.objs.size = s4.heap.objs.size + 1 := by rw [hsb.1, Heap.size_push]
    have hpn : ∀ p ∈ [(h'.objs.size, go)], ∀ b ∈ fp, p.1 ≠ b := fun p hp b hb z => by
      rw [List.mem_singleton.mp hp] at z
      have h1 := (hfp b hb).2
      have z' : h'.objs.size = b := z
      rw [← z', hsz'] at h1
      exact Nat.lt_irrefl _ (Nat.lt_of_succ_lt h1)
    refine hQ _ h'.objs.size s4.gens.size (m0 + 1) _ (fun {H' s'} J' => hgen _ (J'.pin (h'.objs.size, go) (List.mem_append_left _ (List.mem_singleton.mpr rfl))).1) (fun {H' s'} J' => ?_) ⟨by show s4.gens.size < (s4.gens.push _).size; rw [Array.size_push]; exact Nat.lt_succ_self _, ⟨_, I5⟩, _, Array.getElem?_push_size .., fun s'' e1 e2 e3 e4 => ⟨rfl, ?_⟩⟩
    · refine I4.call' (ch := fp) J'.os J'.base J'.hok J'.bare fun b hb => ⟨(hfp b hb).1.2.2.2.1, (hfp b hb).1.2.1, (hfp b hb).1.2.2.2.2.1, (hfp b hb).1.2.2.2.2.2⟩
    · exact seg_startG (X := X) (σ := σ) (s4 := s4) (H2 := upd H1 P (.tbl ps')) (fp := fp) (pn := [(h'.objs.size, go)]) (tn := tn) (J := J) (g := g) (tt := tt) (te := te) (vs := own.map (·.2)) (gi := s4.gens.size) (c := c) (Qt := Q (.bl c)) (Qf := Q (.bl (!c))) (m := m0) (H := upd H1 P (.tbl ps'))
        hc W hA'.symm hco rfl T hpn (hg A' s4 _ _ code fp _) (ht A' s4 _ _ code fp _ hrA) (he A' s4 _ _ code fp _ hrA) turn w0 (Inv.gens I5 e1 e2 e3) (by rw [e1]; exact hst5) nfp e4
  cases hf : codeAmong gpos ps.toList with
  | none =>
    refine wpAny_genexprCodeX hcode (cd.code hP2 ht0) (cd.tab hP2) hf fun c' h' tk hx hge hlt hco' _ htab' _ => ?_
    obtain ⟨o1, vs, f1, tf, fl, tg', inF, tx, tt', op, _, _, _, _, _, _, _, _, _, htr, _⟩ := hco'
    refine cont _ h' tk _ hx (Nat.le_trans hge (Nat.le_of_lt hlt)) htab'.2 ⟨_, rfl⟩ htr fun p' cv hne hcv => ?_
    have eL : (ps ++ #[rawInt gpos.line, rawInt gpos.col, .ref c']).toList = ps.toList ++ [rawInt gpos.line, rawInt gpos.col, .ref c'] := by simp
    rw [eL] at hcv
    exact among_new _ ht0 hne hcv
  | some cv =>
    refine wpAny_genexprCode_hit hcode (cd.code hP2 ht0) hf ?_
    exact cont cv s2.heap s2.toks ps (Heap.ExtBut.refl _ _) (Nat.le_refl _) hP2 ⟨#[], by simp⟩ ht0 fun _ _ _ z => z

/-- all(elt for tg in iter if ..) -/
theorem pe_allG {cA P : Addr} {elt tg iter : Expr} {ifs : List Expr} {p pos gpos : Pos} {scope : Scope} {own : List (Str × Nat)} {wi : TI} {g : TG} {tt : TT} {te : TE} {k : Nat}
    (hr : Room (k + 1) X.A) (hc : X.calm = true) (hN : X.N.Nodup) (hgl : Gl X "all") (hm : X.mg "all" = none) (TB : TabB X.base X.mg cA P) (hcode : X.env.code = .ref cA) (ok : BlkOk X.N X.env.scope scope own) (hcell : ∀ y ∈ scope.names, y.2 ≠ .cell) (h0 : scope.names.lookup (".0" : Str) = some NameKind.local) (hco : scope.isCoroutine = false)
    (hi : PI X tg iter wi)
    (hg : ∀ (A' : Around) (s : Shared) (H : Hp) (C : Addr) (code : Value) (fp : List Addr) (pn : List (Addr × Obj)), PG (gblk X A' s H (genEnv scope (cloFrom X.env.cells scope.names []) C code builtinsNs X.env) fp pn) tg g)
    (ht : ∀ (A' : Around) (s : Shared) (H : Hp) (C : Addr) (code : Value) (fp : List Addr) (pn : List (Addr × Obj)), Room k A' → PTs (gblk X A' s H (genEnv scope (cloFrom X.env.cells scope.names []) C code builtinsNs X.env) fp pn) ifs tt)
    (he : ∀ (A' : Around) (s : Shared) (H : Hp) (C : Addr) (code : Value) (fp : List Addr) (pn : List (Addr × Obj)), Room k A' → PE (gblk X A' s H (genEnv scope (cloFrom X.env.cells scope.names []) C code builtinsNs X.env) fp pn) elt te)
    (hs : ∀ v, genFold iter X.env v = pure v) :
    PE X (.Call (.Name "all" p) [.GeneratorExp elt [⟨tg, iter, ifs, 0⟩] scope gpos] [] pos) (tGen P gpos wi g tt te (own.map (·.2)) true) := by
  refine ⟨fun pins s σ H Q I h => ?_⟩
  refine wpAny_Call_Name_kw (ld_blt I hgl hm boot_all ?_)
  have hst : starEach [.GeneratorExp elt [⟨tg, iter, ifs, 0⟩] scope gpos] X.env = (false, eval (.GeneratorExp elt [⟨tg, iter, ifs, 0⟩] scope gpos) X.env) :: starEach [] X.env := by rfl
  refine PyProof.Rows.callWith_builtin1 ?_ hst (by rfl)
  rw [hst]
  show wpAny _ _ (spliced ((false, eval (.GeneratorExp elt [⟨tg, iter, ifs, 0⟩] scope gpos) X.env) :: backTo pos (starEach [] X.env))) _ _ s
  refine Calls.spliced_cons (gen_make hr hc hN TB hcode ok hcell h0 hco hi hg ht he hs I h fun Xg a gi n s5 hgen hout x => ?_)
  refine Calls.spliced_nil ?_
  refine call_function_tree F.kind_all F.plain_all F.entry_all (F.args_all1 _) ?_
  unfold Builtin.«all»
  refine wpAny_bind (m := oneArg "all" _) (wpAny_pure ?_)
  have hI : s5.heap.IsGen a gi := by obtain ⟨_, ⟨H5, I5⟩, _⟩ := x; exact hgen I5
  refine wpAny_bind (wpAny_pyIter_gen hI ?_)
  refine wpAny_pure ⟨plainId_quiet F.plain_all_loop _, all_loopG hr.hd (by have := hr.dp; omega) hgen (fun H' s' J q => ?_) (fun H' s' J q => ?_) n s5 x⟩
  · exact ⟨.bl true, H', hout J, rfl, q⟩
  · exact ⟨.bl false, H', hout J, rfl, q⟩
/-- any(elt for tg in iter if ..) -/
theorem pe_anyG {cA P : Addr} {elt tg iter : Expr} {ifs : List Expr} {p pos gpos : Pos} {scope : Scope} {own : List (Str × Nat)} {wi : TI} {g : TG} {tt : TT} {te : TE} {k : Nat}
    (hr : Room (k + 1) X.A) (hc : X.calm = true) (hN : X.N.Nodup) (hgl : Gl X "any") (hm : X.mg "any" = none) (TB : TabB X.base X.mg cA P) (hcode : X.env.code = .ref cA) (ok : BlkOk X.N X.env.scope scope own) (hcell : ∀ y ∈ scope.names, y.2 ≠ .cell) (h0 : scope.names.lookup (".0" : Str) = some NameKind.local) (hco : scope.isCoroutine = false)
    (hi : PI X tg iter wi)
    (hg : ∀ (A' : Around) (s : Shared) (H : Hp) (C : Addr) (code : Value) (fp : List Addr) (pn : List (Addr × Obj)), PG (gblk X A' s H (genEnv scope (cloFrom X.env.cells scope.names []) C code builtinsNs X.env) fp pn) tg g)
    (ht : ∀ (A' : Around) (s : Shared) (H : Hp) (C : Addr) (code : Value) (fp : List Addr) (pn : List (Addr × Obj)), Room k A' → PTs (gblk X A' s H (genEnv scope (cloFrom X.env.cells scope.names []) C code builtinsNs X.env) fp pn) ifs tt)
    (he : ∀ (A' : Around) (s : Shared) (H : Hp) (C : Addr) (code : Value) (fp : List Addr) (pn : List (Addr × Obj)), Room k A' → PE (gblk X A' s H (genEnv scope (cloFrom X.env.cells scope.names []) C code builtinsNs X.env) fp pn) elt te)
    (hs : ∀ v, genFold iter X.env v = pure v) :
    PE X (.Call (.Name "any" p) [.GeneratorExp elt [⟨tg, iter, ifs, 0⟩] scope gpos] [] pos) (tGen P gpos wi g tt te (own.map (·.2)) false) := by
  refine ⟨fun pins s σ H Q I h => ?_⟩
  refine wpAny_Call_Name_kw (ld_blt I hgl hm boot_any ?_)
  have hst : starEach [.GeneratorExp elt [⟨tg, iter, ifs, 0⟩] scope gpos] X.env = (false, eval (.GeneratorExp elt [⟨tg, iter, ifs, 0⟩] scope gpos) X.env) :: starEach [] X.env := by rfl
  refine PyProof.Rows.callWith_builtin1 ?_ hst (by rfl)
  rw [hst]
  show wpAny _ _ (spliced ((false, eval (.GeneratorExp elt [⟨tg, iter, ifs, 0⟩] scope gpos) X.env) :: backTo pos (starEach [] X.env))) _ _ s
  refine Calls.spliced_cons (gen_make hr hc hN TB hcode ok hcell h0 hco hi hg ht he hs I h fun Xg a gi n s5 hgen hout x => ?_)
  refine Calls.spliced_nil ?_
  refine call_function_tree F.kind_any F.plain_any F.entry_any (F.args_any1 _) ?_
  unfold Builtin.«any»
  refine wpAny_bind (m := oneArg "any" _) (wpAny_pure ?_)
  have hI : s5.heap.IsGen a gi := by obtain ⟨_, ⟨H5, I5⟩, _⟩ := x; exact hgen I5
  refine wpAny_bind (wpAny_pyIter_gen hI ?_)
  refine wpAny_pure ⟨plainId_quiet F.plain_any_loop _, any_loopG hr.hd (by have := hr.dp; omega) hgen (fun H' s' J q => ?_) (fun H' s' J q => ?_) n s5 x⟩
  · exact ⟨.bl false, H', hout J, rfl, q⟩
  · exact ⟨.bl true, H', hout J, rfl, q⟩
end
end Gx
/-! ### what is walked, targets, comprehensions -/
namespace Ev
open PySem PySem.Spec PyProof.Rows L2
theorem PI.imp {X : Cx} {tg e : Expr} {t t' : TI} (h : PI X tg e t) (k : ∀ σ H R, t' σ H R → t σ H R) : PI X tg e t' := ⟨fun pins s σ H R I w => h.run pins s σ H R I (k σ H R w)⟩
theorem PTs.imp {X : Cx} {e : List Expr} {t t' : TT} (h : PTs X e t) (k : ∀ σ H Q, t' σ H Q → t σ H Q) : PTs X e t' := ⟨fun pins s σ H Q I w => h.run pins s σ H Q I (k σ H Q w)⟩
/-- a later state; q: nothing of H's has changed -/
def Lt (q : Bool) (G H G1 H1 : Hp) : Prop := Sub G G1 ∧ Sub G1 H1 ∧ (q = true → ∀ b o, H b = some o → (∀ ps, o ≠ .tbl ps) → H1 b = some o)
/-- what a walk hands out: data, or a new tuple that is unpacked at once -/
def RpY (C : Cn) (G H : Hp) (tg : Tg) (d : D) (v : V) : Prop := Rp C.K C.fa G d v ∨ ∃ is ds a xs, tg = .tp is ∧ d = .tup ds ∧ v = .ref a ∧ H a = some (.tup xs) ∧ RpL C.K C.fa G ds xs
/-- the walk hands out the data ds -/
structure ItOk (C : Cn) (q : Bool) (tg : Tg) (G H : Hp) (J : L2.It) (ds : List D) : Prop where
  go : ∀ i G1 H1, Lt q G H G1 H1 → i < ds.length → J.go i H1
  yld : ∀ (i : Nat) (d : D) (N : En) (G1 H1 : Hp) (x : V) (H2 : Hp) (ε : Env) (σ : L2.St), ds[i]? = some d → Lt q G H G1 H1 → Fr C N G1 H1 ε σ → J.yld i H1 x H2 → ∃ G2, Fr C N G2 H2 ε σ ∧ Go C.tabs (fun _ => False) G1 H1 G2 H2 ∧ RpY C G2 H2 tg d x
  stop : ∀ i G1 H1, Lt q G H G1 H1 → ds.length ≤ i → J.stop i H1
def tI (C : Cn) (p q : Bool) (tg : Tg) (f : Env → Res (List D × Env)) : TI := fun σ H R => ∃ N G ε, Fr C N G H ε σ ∧ Post C N σ p G H (f ε) fun ds G' H' _ => ∀ J, ItOk C q tg G' H' J ds → R J H'
section
variable {C : Cn} {X : Cx} {tg : Tg} {e a b c tgE : Expr} {f g h : Env → Res (D × Env)} {p pa pb pc : Bool} {pos : Pos}
theorem itok_list {G H : Hp} {a : Addr} {xs : List V} {ds : List D} (hK : X.K = C.K) (h : SqL X.K G a xs) (r : RpL C.K C.fa G ds xs) : ItOk C false tg G H (Itl X.K a) ds where
  go := fun i G1 H1 lt hi => by
    have hi' : i < xs.length := by rw [← r.len]; exact hi
    exact ⟨xs, xs[i], lt.2.1.l (lt.1.l h), List.getElem?_eq_getElem hi'⟩
  yld := fun i d N G1 H1 x H2 ε σ e s F y => by
    obtain ⟨rfl, q⟩ := y
    obtain ⟨v, h1, h2⟩ := RpL.get r e
    have := q xs (F.sub.l (s.1.l h))
    rw [h1] at this
    cases this
    exact ⟨G1, F, Go.refl _ _ _ _, .inl (h2.mono s.1)⟩
  stop := fun i G1 H1 lt hi => ⟨xs, lt.2.1.l (lt.1.l h), by rw [← r.len]; exact hi⟩
/-- a list that is somebody's, while nothing of it changes -/
theorem itok_top {G H : Hp} {a : Addr} {xs : List V} {ds : List D} (h : H a = some (.lst xs)) (r : RpL C.K C.fa G ds xs) : ItOk C true tg G H (Itl X.K a) ds where
  go := fun i G1 H1 lt hi => by
    have hi' : i < xs.length := by rw [← r.len]; exact hi
    exact ⟨xs, xs[i], SqL.of (lt.2.2 rfl _ _ h (fun ps z => by cases z)), List.getElem?_eq_getElem hi'⟩
  yld := fun i d N G1 H1 x H2 ε σ e s F y => by
    obtain ⟨rfl, q⟩ := y
    obtain ⟨v, h1, h2⟩ := RpL.get r e
    have := q xs (SqL.of (s.2.2 rfl _ _ h (fun ps z => by cases z)))
    rw [h1] at this
    cases this
    exact ⟨G1, F, Go.refl _ _ _ _, .inl (h2.mono s.1)⟩
  stop := fun i G1 H1 lt hi => ⟨xs, SqL.of (lt.2.2 rfl _ _ h (fun ps z => by cases z)), by rw [← r.len]; exact hi⟩
theorem itok_tup {G H : Hp} {a : Addr} {xs : List V} {ds : List D} (hK : X.K = C.K) (h : PT.PlT G a xs) (r : RpL C.K C.fa G ds xs) : ItOk C false tg G H (Itt X.K a) ds where
  go := fun i G1 H1 lt hi => by
    have hi' : i < xs.length := by rw [← r.len]; exact hi
    exact ⟨xs, xs[i], ((h.mono lt.1).mono lt.2.1).sq, List.getElem?_eq_getElem hi'⟩
  yld := fun i d N G1 H1 x H2 ε σ e s F y => by
    obtain ⟨rfl, q⟩ := y
    obtain ⟨v, h1, h2⟩ := RpL.get r e
    have := q xs ((h.mono s.1).mono F.sub).sq
    rw [h1] at this
    cases this
    exact ⟨G1, F, Go.refl _ _ _ _, .inl (h2.mono s.1)⟩
  stop := fun i G1 H1 lt hi => ⟨xs, ((h.mono lt.1).mono lt.2.1).sq, by rw [← r.len]; exact hi⟩
theorem itok_rng {G H : Hp} {lo hi : Int} : ItOk C false tg G H (Itr lo (hi - lo).toNat) (rngD lo hi) where
  go := fun i G1 H1 _ h => by
    have : i < (hi - lo).toNat := by simpa [rngD] using h
    exact this
  yld := fun i d N G1 H1 x H2 ε σ e s F y => by
    obtain ⟨rfl, rfl⟩ := y
    unfold rngD at e
    rw [List.getElem?_map] at e
    cases hr : (List.range (hi - lo).toNat)[i]? with
    | none => rw [hr] at e; cases e
    | some k =>
      rw [hr] at e
      cases e
      have hk : k = i := by
        rw [List.getElem?_eq_some_iff] at hr
        obtain ⟨h1, h2⟩ := hr
        rw [← h2, List.getElem_range]
      subst hk
      exact ⟨G1, F, Go.refl _ _ _ _, .inl rfl⟩
  stop := fun i G1 H1 _ h => by
    have : (hi - lo).toNat ≤ i := by simpa [rngD] using h
    exact this
theorem itok_down {G H : Hp} {i0 j0 : Int} {ds : List D} (h : rngD3 i0 j0 (-1) = .ok ds) : ItOk C false tg G H (Itc i0 (-1) (i0 - j0).toNat) ds := by
  unfold rngD3 at h
  rw [if_pos rfl] at h
  cases h
  exact {
    go := fun i G1 H1 _ h => by
      have : i < (i0 - j0).toNat := by simpa using h
      exact this
    yld := fun i d N G1 H1 x H2 ε σ e s F y => by
      obtain ⟨rfl, rfl⟩ := y
      rw [List.getElem?_map] at e
      cases hr : (List.range (i0 - j0).toNat)[i]? with
      | none => rw [hr] at e; cases e
      | some k =>
        rw [hr] at e
        cases e
        have hk : k = i := by
          rw [List.getElem?_eq_some_iff] at hr
          obtain ⟨h1, h2⟩ := hr
          rw [← h2, List.getElem_range]
        subst hk
        exact ⟨G1, F, Go.refl _ _ _ _, .inl rfl⟩
    stop := fun i G1 H1 _ h => by
      have : (i0 - j0).toNat ≤ i := by simpa using h
      exact this }
/-- a new pair -/
theorem pair_yld {N : En} {G1 H : Hp} {ε : Env} {σ : L2.St} {T : Addr} {x y : V} {d e : D} (ht : ∃ is, tg = .tp is) (F : Fr C N G1 H ε σ) (hT : H T = none) (hd : Rp C.K C.fa G1 d x) (he : Rp C.K C.fa G1 e y) :
    ∃ G2, Fr C N G2 (upd H T (.tup [x, y])) ε σ ∧ Go C.tabs (fun _ => False) G1 H G2 (upd H T (.tup [x, y])) ∧ RpY C G2 (upd H T (.tup [x, y])) tg (.tup [d, e]) (.ref T) := by
  obtain ⟨F2, g2⟩ := F.newH (o := .tup [x, y]) hT
  obtain ⟨is, e0⟩ := ht
  exact ⟨_, F2, g2, .inr ⟨is, _, T, [x, y], e0, rfl, rfl, upd_same, x, [y], rfl, hd, y, [], rfl, he, rfl⟩⟩
theorem zipD_at : ∀ {xs ys : List D} {i : Nat} {d : D}, (zipD xs ys)[i]? = some d → ∃ x y, xs[i]? = some x ∧ ys[i]? = some y ∧ d = .tup [x, y]
  | [], _, i, d, h => by simp [zipD] at h
  | _ :: _, [], i, d, h => by simp [zipD] at h
  | x :: xs, y :: ys, 0, d, h => by cases h; exact ⟨x, y, rfl, rfl, rfl⟩
  | x :: xs, y :: ys, i + 1, d, h => zipD_at (xs := xs) (ys := ys) (i := i) h
theorem zipD_len : ∀ {xs ys : List D}, (zipD xs ys).length = min xs.length ys.length
  | [], _ => by simp [zipD]
  | _ :: _, [] => by simp [zipD]
  | x :: xs, y :: ys => by
    simp only [zipD, List.length_cons, zipD_len (xs := xs) (ys := ys)]
    omega
theorem itok_zipL {G H : Hp} {a b : Addr} {xs ys : List V} {ds es : List D} (ht : ∃ is, tg = .tp is) (hK : X.K = C.K) (h : G a = some (.lst xs)) (r : RpL C.K C.fa G ds xs) (h2 : G b = some (.lst ys)) (r2 : RpL C.K C.fa G es ys) : ItOk C false tg G H (Itz X.K a b) (zipD ds es) where
  go := fun i G1 H1 lt hi => by
    rw [zipD_len] at hi
    have i1 : i < xs.length := by rw [← r.len]; omega
    have i2 : i < ys.length := by rw [← r2.len]; omega
    exact ⟨xs, ys, _, _, SqL.of (lt.2.1 _ _ (lt.1 _ _ h)), SqL.of (lt.2.1 _ _ (lt.1 _ _ h2)), List.getElem?_eq_getElem i1, List.getElem?_eq_getElem i2⟩
  yld := fun i d N G1 H1 x H2 ε σ e s F y => by
    obtain ⟨T, x, y, rfl, hT, rfl, q1, q2⟩ := y
    obtain ⟨d1, d2, e1, e2, rfl⟩ := zipD_at e
    obtain ⟨v, k1, k2⟩ := RpL.get r e1
    obtain ⟨u, k3, k4⟩ := RpL.get r2 e2
    have z1 := q1 xs (SqL.of (F.sub _ _ (s.1 _ _ h)))
    have z2 := q2 ys (SqL.of (F.sub _ _ (s.1 _ _ h2)))
    rw [k1] at z1
    rw [k3] at z2
    cases z1
    cases z2
    exact pair_yld ht F hT (k2.mono s.1) (k4.mono s.1)
  stop := fun i G1 H1 lt hi => by
    rw [zipD_len] at hi
    have l1 := r.len
    have l2 := r2.len
    exact ⟨xs, ys, SqL.of (lt.2.1 _ _ (lt.1 _ _ h)), SqL.of (lt.2.1 _ _ (lt.1 _ _ h2)), by omega⟩
theorem itok_zipT {G H : Hp} {a b : Addr} {xs ys : List V} {ds es : List D} (ht : ∃ is, tg = .tp is) (hK : X.K = C.K) (h : PT.PlT G a xs) (r : RpL C.K C.fa G ds xs) (h2 : PT.PlT G b ys) (r2 : RpL C.K C.fa G es ys) : ItOk C false tg G H (RZ.ItzT X.K a b) (zipD ds es) where
  go := fun i G1 H1 lt hi => by
    rw [zipD_len] at hi
    have i1 : i < xs.length := by rw [← r.len]; omega
    have i2 : i < ys.length := by rw [← r2.len]; omega
    exact ⟨xs, ys, _, _, ((h.mono lt.1).mono lt.2.1).sq, ((h2.mono lt.1).mono lt.2.1).sq, List.getElem?_eq_getElem i1, List.getElem?_eq_getElem i2⟩
  yld := fun i d N G1 H1 x H2 ε σ e s F y => by
    obtain ⟨T, x, y, rfl, hT, rfl, q1, q2⟩ := y
    obtain ⟨d1, d2, e1, e2, rfl⟩ := zipD_at e
    obtain ⟨v, k1, k2⟩ := RpL.get r e1
    obtain ⟨u, k3, k4⟩ := RpL.get r2 e2
    have z1 := q1 xs ((h.mono s.1).mono F.sub).sq
    have z2 := q2 ys ((h2.mono s.1).mono F.sub).sq
    rw [k1] at z1
    rw [k3] at z2
    cases z1
    cases z2
    exact pair_yld ht F hT (k2.mono s.1) (k4.mono s.1)
  stop := fun i G1 H1 lt hi => by
    rw [zipD_len] at hi
    have l1 := r.len
    have l2 := r2.len
    exact ⟨xs, ys, ((h.mono lt.1).mono lt.2.1).sq, ((h2.mono lt.1).mono lt.2.1).sq, by omega⟩
theorem enmD_at : ∀ {xs : List D} {n i : Nat} {d : D}, (enmD n xs)[i]? = some d → ∃ x, xs[i]? = some x ∧ d = .tup [.int ((n + i : Nat) : Int), x]
  | [], n, i, d, h => by simp [enmD] at h
  | x :: xs, n, 0, d, h => by cases h; exact ⟨x, rfl, rfl⟩
  | x :: xs, n, i + 1, d, h => by
    obtain ⟨y, h1, h2⟩ := enmD_at (xs := xs) (n := n + 1) (i := i) h
    exact ⟨y, h1, by rw [h2, show n + 1 + i = n + (i + 1) by omega]⟩
theorem enmD_len : ∀ {xs : List D} {n : Nat}, (enmD n xs).length = xs.length
  | [], n => rfl
  | x :: xs, n => by rw [enmD, List.length_cons, List.length_cons, enmD_len]
theorem itok_enm {G H : Hp} {a : Addr} {xs : List V} {ds : List D} (ht : ∃ is, tg = .tp is) (hK : X.K = C.K) (h : G a = some (.lst xs)) (r : RpL C.K C.fa G ds xs) : ItOk C false tg G H (Ite X.K a) (enmD 0 ds) where
  go := fun i G1 H1 lt hi => by
    rw [enmD_len] at hi
    have hi' : i < xs.length := by rw [← r.len]; exact hi
    exact ⟨xs, xs[i], SqL.of (lt.2.1 _ _ (lt.1 _ _ h)), List.getElem?_eq_getElem hi'⟩
  yld := fun i d N G1 H1 x H2 ε σ e s F y => by
    obtain ⟨T, x, rfl, hT, rfl, q⟩ := y
    obtain ⟨d1, e1, rfl⟩ := enmD_at e
    obtain ⟨v, h1, h2⟩ := RpL.get r e1
    have := q xs (SqL.of (F.sub _ _ (s.1 _ _ h)))
    rw [h1] at this
    cases this
    rw [Nat.zero_add]
    exact pair_yld ht F hT rfl (h2.mono s.1)
  stop := fun i G1 H1 lt hi => ⟨xs, SqL.of (lt.2.1 _ _ (lt.1 _ _ h)), by rw [← r.len]; rw [enmD_len] at hi; exact hi⟩
theorem itok_enmT {G H : Hp} {a : Addr} {xs : List V} {ds : List D} (ht : ∃ is, tg = .tp is) (hK : X.K = C.K) (h : PT.PlT G a xs) (r : RpL C.K C.fa G ds xs) : ItOk C false tg G H (PT.IteT X.K a) (enmD 0 ds) where
  go := fun i G1 H1 lt hi => by
    rw [enmD_len] at hi
    have hi' : i < xs.length := by rw [← r.len]; exact hi
    exact ⟨xs, xs[i], ((h.mono lt.1).mono lt.2.1).sq, List.getElem?_eq_getElem hi'⟩
  yld := fun i d N G1 H1 x H2 ε σ e s F y => by
    obtain ⟨T, x, rfl, hT, rfl, q⟩ := y
    obtain ⟨d1, e1, rfl⟩ := enmD_at e
    obtain ⟨v, h1, h2⟩ := RpL.get r e1
    have := q xs ((h.mono s.1).mono F.sub).sq
    rw [h1] at this
    cases this
    rw [Nat.zero_add]
    exact pair_yld ht F hT rfl (h2.mono s.1)
  stop := fun i G1 H1 lt hi => ⟨xs, ((h.mono lt.1).mono lt.2.1).sq, by rw [← r.len]; rw [enmD_len] at hi; exact hi⟩
def iSq (K : PySem.W.Frag) (tl : TE) : TI := fun σ H R => tl σ H fun x H1 => ∃ a, x = .ref a ∧ (((∃ xs, SqL K H1 a xs) ∧ R (Itl K a) H1) ∨ ((∃ xs, SqT K H1 a xs) ∧ R (Itt K a) H1))
theorem pi_sq {l : Expr} {tl : TE} (hl : PE X l tl) : PI X tgE l (iSq X.K tl) := by
  refine ⟨fun pins s σ H R I h => ?_⟩
  refine thn (hl.run pins s σ H _ I h) fun v s1 ⟨x, H1, I1, r1, q1⟩ => ?_
  obtain ⟨a, e, q⟩ := q1
  subst e
  cases r1
  rcases q with ⟨⟨xs, hq⟩, q⟩ | ⟨⟨xs, hq⟩, q⟩
  · obtain ⟨its, rv, p, hz⟩ := I1.list hq
    refine wpAny_pyIter_list p.isList ?_
    refine ⟨s1.heap.objs.size, [s1.heap.objs.size], _, _, H1, rfl, I1.kept (t' := s1.toks) fun b o e => Heap.get?_push_of_some _ e, turn_list a _, ⟨_, Heap.get?_push_size _ rfl, rfl, rfl⟩, fun b hb => ?_, q⟩
    have e : b = s1.heap.objs.size := by simpa using hb
    subst e
    exact I1.fpOk (Nat.le_refl _) (I1.hok.fresh (Nat.le_refl _))
  · obtain ⟨its, rv, p, hz⟩ := I1.tuple hq
    refine wpAny_pyIter_tuple (show s1.heap.IsTuple a its.toArray from p) ?_
    refine ⟨s1.heap.objs.size, [s1.heap.objs.size], _, _, H1, rfl, I1.kept (t' := s1.toks) fun b o e => Heap.get?_push_of_some _ e, turn_tuple a _, ⟨_, Heap.get?_push_size _ rfl, rfl, rfl⟩, fun b hb => ?_, q⟩
    have e : b = s1.heap.objs.size := by simpa using hb
    subst e
    exact I1.fpOk (Nat.le_refl _) (I1.hok.fresh (Nat.le_refl _))
theorem itemsD_ne (d : D) (c : Nat) (x : D) : itemsD d ≠ .er c x := by cases d <;> simp [itemsD]
theorem pi_seq (hK : X.K = C.K) (ha : PE X a (tR C pa .esc f)) : PI X tgE a (tI C pa false tg fun ε => (f ε).bind fun p => (itemsD p.1).bind fun xs => .ok (xs, p.2)) := by
  refine PI.imp (pi_sq ha) fun σ H R ⟨N, G, ε, F, w⟩ => ⟨N, G, ε, F, ?_⟩
  have w' : Post C N σ (pa && true) G H ((f ε).bind fun p => (itemsD p.1).bind fun xs => .ok (xs, p.2)) fun ds G' H' _ => ∀ J, ItOk C false tg G' H' J ds → R J H' := by rw [Bool.and_true]; exact w
  refine w'.bind.imp fun d G1 H1 ε1 F1 g1 w1 v rv => ?_
  obtain ⟨xs, hx, w2⟩ := w1.val (itemsD_ne d)
  have w3 := w2.here F1
  cases d with
  | tup ds =>
    cases hx
    obtain ⟨a, vs, rfl, h1, h2⟩ := rv
    exact ⟨a, rfl, .inr ⟨⟨vs, (h1.mono F1.sub).sq⟩, w3 _ (itok_tup hK h1 h2)⟩⟩
  | lst ds =>
    cases hx
    obtain ⟨a, vs, rfl, h1, h2⟩ := rv
    exact ⟨a, rfl, .inl ⟨⟨vs, SqL.of (F1.sub _ _ h1)⟩, w3 _ (itok_list hK (SqL.of h1) h2)⟩⟩
  | rol ds =>
    cases hx
    obtain ⟨a, vs, rfl, h1, h2⟩ := rv
    exact ⟨a, rfl, .inl ⟨⟨vs, by rw [hK]; exact F1.sub.l h1⟩, w3 _ (itok_list hK (by rw [hK]; exact h1) h2)⟩⟩
  | _ => cases hx

theorem Post.assoc {α β γ : Type} {N : En} {σ : L2.St} {G H : Hp} {r : Res α} {k : α → Res β} {l : β → Res (γ × Env)} {P : γ → Hp → Hp → Env → Prop} (w : Post C N σ p G H ((r.bind k).bind l) P) : Post C N σ p G H (r.bind fun x => (k x).bind l) P := by
  cases r <;> exact w
/-- bounds that are small -/
theorem smallR_ok {i j : Int} (h : (smallR i && smallR j) = true) : -(2 ^ 62) ≤ i ∧ i < 2 ^ 62 ∧ -(2 ^ 62) ≤ j ∧ j < 2 ^ 62 := by
  simp only [smallR, Bool.and_eq_true, decide_eq_true_eq] at h
  omega
/-- the values of two expressions -/
theorem two_vals {ta : TA} (hpa : PA X [a, b] ta) : PA X [a, b] ta := hpa
theorem pi_rng {pp : Pos} (hg : Gl X "range") (hm : X.mg "range" = none) (ha : PE X a (tR C pa .esc f)) (hb : PE X b (tR C pb .esc g)) (na : nost a = true) (nb : nost b = true) :
    PI X tgE (.Call (.Name "range" pp) [a, b] [] pos) (tI C (pa && pb) false tg fun ε => (f ε).bind fun p => (g p.2).bind fun q => match p.1, q.1 with
      | .int i, .int j => if smallR i && smallR j then .ok (rngD i j, q.2) else .no
      | _, _ => .no) := by
  refine PI.imp (pi_range2 hg hm (pa_cons ha (pa_cons hb pa_nil (star_c nb _)) (star_c na _)) (by rw [star_c na, star_c nb] <;> rfl) (by rw [star_c nb] <;> rfl)) fun σ H R ⟨N, G, ε, F, w⟩ => ⟨N, G, ε, F, ?_⟩
  refine w.bind.imp fun d G1 H1 ε1 F1 g1 w1 v rv => ⟨N, G1, ε1, F1, ?_⟩
  have w1' : Post C N σ (pb && true) G1 H1 ((g ε1).bind fun q => match d, q.1 with
      | .int i, .int j => if smallR i && smallR j then .ok (rngD i j, q.2) else .no
      | _, _ => .no) fun ds G' H' _ => ∀ J, ItOk C false tg G' H' J ds → R J H' := by rw [Bool.and_true]; exact w1
  refine w1'.bind.imp fun e G2 H2 ε2 F2 g2 w2 u ru => ?_
  dsimp only at w2
  split at w2
  · rename_i i j
    split at w2
    · rename_i hs
      have hs := smallR_ok hs
      obtain rfl : v = .int i := rv
      obtain rfl : u = .int j := ru
      exact ⟨i, j, rfl, hs, w2.here F2 _ itok_rng⟩
    · exact w2.elim
  · exact w2.elim
theorem pi_rng1 {pp : Pos} (hg : Gl X "range") (hm : X.mg "range" = none) (hb : PE X b (tR C pb .esc g)) (nb : nost b = true) :
    PI X tgE (.Call (.Name "range" pp) [b] [] pos) (tI C pb false tg fun ε => (Res.ok (D.int 0, ε)).bind fun p => (g p.2).bind fun q => match p.1, q.1 with
      | .int i, .int j => if smallR i && smallR j then .ok (rngD i j, q.2) else .no
      | _, _ => .no) := by
  refine PI.imp (pi_range1 hg hm (pa_cons hb pa_nil (star_c nb _)) (by rw [star_c nb] <;> rfl)) fun σ H R ⟨N, G, ε, F, w⟩ => ⟨N, G, ε, F, ?_⟩
  have w1' : Post C N σ (pb && true) G H ((g ε).bind fun q => match (D.int 0), q.1 with
      | .int i, .int j => if smallR i && smallR j then .ok (rngD i j, q.2) else .no
      | _, _ => .no) fun ds G' H' _ => ∀ J, ItOk C false tg G' H' J ds → R J H' := by rw [Bool.and_true]; exact w
  refine w1'.bind.imp fun e G2 H2 ε2 F2 g2 w2 u ru => ?_
  dsimp only at w2
  split at w2
  · rename_i i j hi
    cases hi
    split at w2
    · rename_i hs
      have hs := smallR_ok hs
      obtain rfl : u = .int j := ru
      have k := w2.here F2 _ (itok_rng (lo := 0) (hi := j))
      rw [Int.sub_zero] at k
      exact ⟨j, rfl, hs.2.2.1, hs.2.2.2, k⟩
    · exact w2.elim
  · exact w2.elim
theorem pi_rng3 {pp : Pos} (hg : Gl X "range") (hm : X.mg "range" = none) (ha : PE X a (tR C pa .esc f)) (hb : PE X b (tR C pb .esc g)) (hc : PE X c (tR C pc .esc h)) (na : nost a = true) (nb : nost b = true) (nc : nost c = true) :
    PI X tgE (.Call (.Name "range" pp) [a, b, c] [] pos) (tI C (pa && (pb && pc)) false tg fun ε => (f ε).bind fun p => (g p.2).bind fun q => (h q.2).bind fun r => match p.1, q.1, r.1 with
      | .int i, .int j, .int k => if smallR i && smallR j then (rngD3 i j k).bind fun xs => .ok (xs, r.2) else .no
      | _, _, _ => .no) := by
  refine PI.imp (pi_range3 hg hm (pa_cons ha (pa_cons hb (pa_cons hc pa_nil (star_c nc _)) (star_c nb _)) (star_c na _)) (star_c na _) (back_any (by simp [nb, nc]))) fun σ H R ⟨N, G, ε, F, w⟩ => ⟨N, G, ε, F, ?_⟩
  refine w.bind.imp fun d G1 H1 ε1 F1 g1 w1 v rv => ⟨N, G1, ε1, F1, ?_⟩
  refine w1.bind.imp fun e G2 H2 ε2 F2 g2 w2 u ru => ⟨N, G2, ε2, F2, ?_⟩
  have w2' : Post C N σ (pc && true) G2 H2 ((h ε2).bind fun r => match d, e, r.1 with
      | .int i, .int j, .int k => if smallR i && smallR j then (rngD3 i j k).bind fun xs => .ok (xs, r.2) else .no
      | _, _, _ => .no) fun ds G' H' _ => ∀ J, ItOk C false tg G' H' J ds → R J H' := by rw [Bool.and_true]; exact w2
  refine w2'.bind.imp fun k G3 H3 ε3 F3 g3 w3 z rz => ?_
  dsimp only at w3
  split at w3
  · rename_i i j k
    split at w3
    · rename_i hs
      have hs := smallR_ok hs
      obtain rfl : v = .int i := rv
      obtain rfl : u = .int j := ru
      obtain rfl : z = .int k := rz
      obtain ⟨xs, hx, w4⟩ := w3.val (fun c x => by unfold rngD3; split <;> simp)
      by_cases hk : k = -1
      · subst hk
        exact ⟨i, j, -1, _, rfl, RgC.neg hs.1 hs.2.1 hs.2.2.1 hs.2.2.2, w4.here F3 _ (itok_down hx)⟩
      · unfold rngD3 at hx
        rw [if_neg hk] at hx
        cases hx
    · exact w3.elim
  · exact w3.elim
theorem pi_zp {pp tpos : Pos} {elts : List Expr} {kk : Nat} (ht : ∃ is, tg = .tp is) (hK : X.K = C.K) (hg : Gl X "zip") (hm : X.mg "zip" = none) (ha : PE X a (tR C pa .esc f)) (hb : PE X b (tR C pb .esc g)) (na : nost a = true) (nb : nost b = true) :
    PI X (.Tuple elts kk tpos) (.Call (.Name "zip" pp) [a, b] [] pos) (tI C (pa && pb) false tg fun ε => (f ε).bind fun p => (g p.2).bind fun q => match p.1, q.1 with
      | .lst xs, .lst ys => .ok (zipD xs ys, q.2)
      | .tup xs, .tup ys => .ok (zipD xs ys, q.2)
      | _, _ => .no) := by
  refine PI.imp (RZ.pi_zipA hg hm (pa_cons ha (pa_cons hb pa_nil (star_c nb _)) (star_c na _)) (star_c na _) (back_any (by simp [nb]))) fun σ H R ⟨N, G, ε, F, w⟩ => ⟨N, G, ε, F, ?_⟩
  refine w.bind.imp fun d G1 H1 ε1 F1 g1 w1 v rv => ⟨N, G1, ε1, F1, ?_⟩
  have w1' : Post C N σ (pb && true) G1 H1 ((g ε1).bind fun q => match d, q.1 with
      | .lst xs, .lst ys => .ok (zipD xs ys, q.2)
      | .tup xs, .tup ys => .ok (zipD xs ys, q.2)
      | _, _ => .no) fun ds G' H' _ => ∀ J, ItOk C false tg G' H' J ds → R J H' := by rw [Bool.and_true]; exact w1
  refine w1'.bind.imp fun e G2 H2 ε2 F2 g2 w2 u ru => ?_
  dsimp only at w2
  split at w2
  · rename_i ds es
    obtain ⟨a1, xs, rfl, h1, h2⟩ := Rp.mono g2.ext rv
    obtain ⟨a2, ys, rfl, h3, h4⟩ := ru
    exact ⟨a1, a2, xs, ys, rfl, .inl ⟨SqL.of (F2.sub _ _ h1), SqL.of (F2.sub _ _ h3), w2.here F2 _ (itok_zipL ht hK h1 h2 h3 h4)⟩⟩
  · rename_i ds es
    obtain ⟨a1, xs, rfl, h1, h2⟩ := Rp.mono g2.ext rv
    obtain ⟨a2, ys, rfl, h3, h4⟩ := ru
    exact ⟨a1, a2, xs, ys, rfl, .inr ⟨(h1.mono F2.sub).sq, (h3.mono F2.sub).sq, w2.here F2 _ (itok_zipT ht hK h1 h2 h3 h4)⟩⟩
  · exact w2.elim
theorem pi_en {pp tpos : Pos} {elts : List Expr} {kk : Nat} (ht : ∃ is, tg = .tp is) (hK : X.K = C.K) (hg : Gl X "enumerate") (hm : X.mg "enumerate" = none) (ha : PE X a (tR C pa .esc f)) (na : nost a = true) :
    PI X (.Tuple elts kk tpos) (.Call (.Name "enumerate" pp) [a] [] pos) (tI C pa false tg fun ε => (f ε).bind fun p => match p.1 with
      | .lst xs => .ok (enmD 0 xs, p.2)
      | .tup xs => .ok (enmD 0 xs, p.2)
      | _ => .no) := by
  refine PI.imp (PT.pi_enumA hg hm (pa_cons ha pa_nil (star_c na _)) (by rw [star_c na] <;> rfl)) fun σ H R ⟨N, G, ε, F, w⟩ => ⟨N, G, ε, F, ?_⟩
  have w1' : Post C N σ (pa && true) G H ((f ε).bind fun q => match q.1 with
      | .lst xs => .ok (enmD 0 xs, q.2)
      | .tup xs => .ok (enmD 0 xs, q.2)
      | _ => .no) fun ds G' H' _ => ∀ J, ItOk C false tg G' H' J ds → R J H' := by rw [Bool.and_true]; exact w
  refine w1'.bind.imp fun e G2 H2 ε2 F2 g2 w2 u ru => ?_
  dsimp only at w2
  split at w2
  · rename_i ds
    obtain ⟨a1, xs, rfl, h1, h2⟩ := ru
    exact ⟨a1, xs, rfl, .inl ⟨SqL.of (F2.sub _ _ h1), w2.here F2 _ (itok_enm ht hK h1 h2)⟩⟩
  · rename_i ds
    obtain ⟨a1, xs, rfl, h1, h2⟩ := ru
    exact ⟨a1, xs, rfl, .inr ⟨(h1.mono F2.sub).sq, w2.here F2 _ (itok_enmT ht hK h1 h2)⟩⟩
  · exact w2.elim
theorem pi_sqb {i : Nat} {x : Str} (hN : X.N[i]? = some x) (hv : Vis X.env.scope x) (hc : C.cl i ≠ .pl) (hd : (x == ("__debug__" : Str)) = false) (hcd : (x == ("__classdict__" : Str)) = false) :
    PI X tgE (.Name x pos) (tI C true true tg fun ε => (getE ε i).bind fun d => match d with
      | .lst ds => .ok (ds, ε)
      | _ => .no) := by
  refine PI.imp (pi_list (pe_var hN hv hd hcd)) fun σ H R ⟨N, G, ε, F, w⟩ => ?_
  dsimp only [getE] at w
  split at w
  · rename_i d he
    simp only [Res.bind_ok] at w
    split at w
    · rename_i ds
      have k : ∃ a xs, σ[i]? = some (some (.ref a)) ∧ H a = some (.lst xs) ∧ RpL C.K C.fa G ds xs := by
        cases hk : C.cl i with
        | pl => exact absurd hk hc
        | mu =>
          obtain ⟨a, h1, _, xs, h2, h3⟩ := F.mu i _ hk he
          exact ⟨a, xs, h1, h2, h3⟩
        | bo =>
          obtain ⟨v, h1, a, xs, rfl, h2, h3⟩ := F.bo i _ hk he
          exact ⟨a, xs, h1, h2, h3⟩
      obtain ⟨a, xs, h1, h2, h3⟩ := k
      exact ⟨.ref a, h1, a, rfl, ⟨xs, SqL.of h2⟩, Post.here F w _ (itok_top h2 h3)⟩
    · exact w.elim
  · exact w.elim
end
end Ev
/-! ### targets; comprehensions -/
namespace Ev
open PySem PySem.Spec PyProof.Rows L2
def gNs : List Nat → TGs
  | [] => gNil
  | i :: is => gCons (gName i) (gNs is)
def tTg (K : PySem.W.Frag) : Tg → TG
  | .nm i => gName i
  | .tp is => gTup K is.length (gNs is)
section
variable {C : Cn} {X : Cx}
/-! #### slots set, forgotten -/
section
variable {N : En} {G H : Hp} {ε : Env} {σ : L2.St}
theorem Fr.set (F : Fr C N G H ε σ) {i : Nat} {d : D} {v : V} (hc : C.cl i = .pl) (hl : i < σ.length) (r : Rp C.K C.fa G d v) : Fr C N G H (ε.set i (some d)) (σ.set i (some v)) where
  sub := F.sub
  ntb := F.ntb
  tab := F.tab
  len := by rw [List.length_set, List.length_set]; exact F.len
  ln := by rw [List.length_set]; exact F.ln
  pl := fun j e c h => by
    by_cases hj : i = j
    · subst hj
      rw [List.getElem?_set_self (by rw [F.len]; exact hl)] at h
      cases h
      exact ⟨v, List.getElem?_set_self hl, r⟩
    · rw [List.getElem?_set_ne hj] at h ⊢
      exact F.pl j e c h
  mu := fun j e c h => by
    have hj : i ≠ j := fun z => by rw [z, c] at hc; cases hc
    rw [List.getElem?_set_ne hj] at h ⊢
    exact F.mu j e c h
  bo := fun j e c h => by
    have hj : i ≠ j := fun z => by rw [z, c] at hc; cases hc
    rw [List.getElem?_set_ne hj] at h ⊢
    exact F.bo j e c h
  boc := fun j e c h => by
    have hj : i ≠ j := fun z => by rw [z, c] at hc; cases hc
    rw [List.getElem?_set_ne hj] at h
    exact F.boc j e c h
  dis := fun j k a c1 c2 h1 h2 => by
    have hj : i ≠ j := fun z => c1 (by rw [← z]; exact hc)
    have hk : i ≠ k := fun z => by rw [z, c2] at hc; cases hc
    rw [List.getElem?_set_ne hj] at h1
    rw [List.getElem?_set_ne hk] at h2
    exact F.dis j k a c1 c2 h1 h2
  dm := fun j a c h => by
    have hj : i ≠ j := fun z => c (by rw [← z]; exact hc)
    rw [List.getElem?_set_ne hj] at h
    exact F.dm j a c h
  go := F.go
  fre := fun j a c h => by
    have hj : i ≠ j := fun z => by rw [z, c] at hc; cases hc
    rw [List.getElem?_set_ne hj] at h
    exact F.fre j a c h
  io := fun a h => by
    obtain ⟨h1, h2, d, h3⟩ := F.io a h
    have hj : i ≠ 0 := fun z => by rw [z, h1] at hc; cases hc
    exact ⟨h1, by rw [List.getElem?_set_ne hj]; exact h2, d, by rw [List.getElem?_set_ne hj]; exact h3⟩
theorem wipeE_len (ε : Env) : ∀ vs : List Nat, (wipeE ε vs).length = ε.length
  | [] => rfl
  | v :: vs => by unfold wipeE; rw [List.length_set, wipeE_len ε vs]
theorem wipeE_ne {ε : Env} {j : Nat} : ∀ {vs : List Nat}, j ∉ vs → (wipeE ε vs)[j]? = ε[j]?
  | [], _ => rfl
  | v :: vs, h => by
    rw [wipeE, List.getElem?_set_ne (fun z => h (by simp [z]))]
    exact wipeE_ne fun z => h (List.mem_cons_of_mem _ z)
theorem wipe_ne {σ : L2.St} {j : Nat} : ∀ {vs : List Nat}, j ∉ vs → (wipe σ vs)[j]? = σ[j]?
  | [], _ => rfl
  | v :: vs, h => by
    rw [wipe, List.getElem?_set_ne (fun z => h (by simp [z]))]
    exact wipe_ne fun z => h (List.mem_cons_of_mem _ z)
theorem wipeE_in {ε : Env} {j : Nat} {d : D} : ∀ {vs : List Nat}, j ∈ vs → (wipeE ε vs)[j]? ≠ some (some d)
  | v :: vs, h => by
    rw [wipeE]
    by_cases hj : v = j
    · subst hj
      by_cases hl : v < (wipeE ε vs).length
      · rw [List.getElem?_set_self hl]; simp
      · rw [List.getElem?_eq_none (by rw [List.length_set]; omega)]; simp
    · rw [List.getElem?_set_ne hj]
      rcases List.mem_cons.mp h with z | z
      · exact absurd z.symm hj
      · exact wipeE_in z
theorem Fr.wipe (F : Fr C N G H ε σ) {vs : List Nat} (hv : ∀ i ∈ vs, C.cl i = .pl) : Fr C N G H (wipeE ε vs) (L2.wipe σ vs) where
  sub := F.sub
  ntb := F.ntb
  tab := F.tab
  len := by rw [wipeE_len, L2.wipe_length]; exact F.len
  ln := by rw [L2.wipe_length]; exact F.ln
  pl := fun j e c h => by
    by_cases hj : j ∈ vs
    · exact absurd h (wipeE_in hj)
    · rw [wipeE_ne hj] at h
      rw [wipe_ne hj]
      exact F.pl j e c h
  mu := fun j e c h => by
    have hj : j ∉ vs := fun z => by rw [hv j z] at c; cases c
    rw [wipeE_ne hj] at h
    rw [wipe_ne hj]
    exact F.mu j e c h
  bo := fun j e c h => by
    have hj : j ∉ vs := fun z => by rw [hv j z] at c; cases c
    rw [wipeE_ne hj] at h
    rw [wipe_ne hj]
    exact F.bo j e c h
  boc := fun j e c h => by
    have hj : j ∉ vs := fun z => by rw [hv j z] at c; cases c
    rw [wipeE_ne hj] at h
    exact F.boc j e c h
  dis := fun j k a c1 c2 h1 h2 => by
    have hj : j ∉ vs := fun z => c1 (hv j z)
    have hk : k ∉ vs := fun z => by rw [hv k z] at c2; cases c2
    rw [wipe_ne hj] at h1
    rw [wipe_ne hk] at h2
    exact F.dis j k a c1 c2 h1 h2
  dm := fun j a c h => by
    have hj : j ∉ vs := fun z => c (hv j z)
    rw [wipe_ne hj] at h
    exact F.dm j a c h
  go := F.go
  fre := fun j a c h => by
    have hj : j ∉ vs := fun z => by rw [hv j z] at c; cases c
    rw [wipe_ne hj] at h
    exact F.fre j a c h
  io := fun a h => by
    obtain ⟨h1, h2, d, h3⟩ := F.io a h
    have hj : 0 ∉ vs := fun z => by rw [hv 0 z] at h1; cases h1
    exact ⟨h1, by rw [wipe_ne hj]; exact h2, d, by rw [wipeE_ne hj]; exact h3⟩
theorem backE_len (ε0 ε : Env) : ∀ vs : List Nat, (backE ε0 ε vs).length = ε.length
  | [] => rfl
  | v :: vs => by unfold backE; rw [List.length_set, backE_len ε0 ε vs]
theorem backE_ne {ε0 ε : Env} {j : Nat} : ∀ {vs : List Nat}, j ∉ vs → (backE ε0 ε vs)[j]? = ε[j]?
  | [], _ => rfl
  | v :: vs, h => by
    rw [backE, List.getElem?_set_ne (fun z => h (by simp [z]))]
    exact backE_ne fun z => h (List.mem_cons_of_mem _ z)
theorem backE_in {ε0 ε : Env} {j : Nat} {d : D} : ∀ {vs : List Nat}, j ∈ vs → (backE ε0 ε vs)[j]? = some (some d) → ε0[j]? = some (some d)
  | v :: vs, h, e => by
    rw [backE] at e
    by_cases hj : v = j
    · subst hj
      by_cases hl : v < (backE ε0 ε vs).length
      · rw [List.getElem?_set_self hl] at e
        have e' : (ε0[v]?).getD none = some d := Option.some.inj e
        cases q : ε0[v]? with
        | none => rw [q] at e'; cases e'
        | some u => rw [q] at e'; exact congrArg some e'
      · rw [List.getElem?_eq_none (by rw [List.length_set]; omega)] at e
        cases e
    · rw [List.getElem?_set_ne hj] at e
      rcases List.mem_cons.mp h with z | z
      · exact absurd z.symm hj
      · exact backE_in z e
/-- behind the block: its own slots are as they were -/
theorem Fr.back {G0 H0 : Hp} {ε0 : Env} (F0 : Fr C N G0 H0 ε0 σ) {vs : List Nat} (hv : ∀ i ∈ vs, C.cl i = .pl) (sub : Sub G0 G) (F : Fr C N G H (wipeE ε vs) (L2.wipe σ vs)) : Fr C N G H (backE ε0 ε vs) σ where
  sub := F.sub
  ntb := F.ntb
  tab := F.tab
  ln := F0.ln
  len := by rw [backE_len]; have := F.len; rw [wipeE_len, L2.wipe_length] at this; exact this
  pl := fun j e c h => by
    by_cases hj : j ∈ vs
    · obtain ⟨v, h1, h2⟩ := F0.pl j e c (backE_in hj h)
      exact ⟨v, h1, h2.mono sub⟩
    · rw [backE_ne hj] at h
      have := F.pl j e c (by rw [wipeE_ne hj]; exact h)
      rw [wipe_ne hj] at this
      exact this
  mu := fun j e c h => by
    have hj : j ∉ vs := fun z => by rw [hv j z] at c; cases c
    rw [backE_ne hj] at h
    have := F.mu j e c (by rw [wipeE_ne hj]; exact h)
    rw [wipe_ne hj] at this
    exact this
  bo := fun j e c h => by
    have hj : j ∉ vs := fun z => by rw [hv j z] at c; cases c
    rw [backE_ne hj] at h
    have := F.bo j e c (by rw [wipeE_ne hj]; exact h)
    rw [wipe_ne hj] at this
    exact this
  boc := fun j e c h => by
    have hj : j ∉ vs := fun z => by rw [hv j z] at c; cases c
    rw [backE_ne hj] at h
    exact F.boc j e c (by rw [wipeE_ne hj]; exact h)
  dis := F0.dis
  dm := fun j a c h => by
    have hj : j ∉ vs := fun z => c (hv j z)
    exact F.dm j a c (by rw [wipe_ne hj]; exact h)
  go := F.go
  fre := F0.fre
  io := fun a h => by
    obtain ⟨h1, h2, d, h3⟩ := F.io a h
    have hj : 0 ∉ vs := fun z => by rw [hv 0 z] at h1; cases h1
    exact ⟨h1, by rw [wipe_ne hj] at h2; exact h2, d, by rw [backE_ne hj]; rw [wipeE_ne hj] at h3; exact h3⟩
theorem ms_wipe {σ2 : L2.St} {vs : List Nat} (hv : ∀ i ∈ vs, C.cl i = .pl) (h : L2.wipe σ2 vs = L2.wipe σ vs) {b : Addr} (m : Ms C σ2 b) : Ms C σ b := by
  obtain ⟨i, c, e⟩ := m
  have hj : i ∉ vs := fun z => by rw [hv i z] at c; cases c
  refine ⟨i, c, ?_⟩
  rw [← wipe_ne hj, ← h, wipe_ne hj]
  exact e
/-- a content of an object apart -/
theorem Fr.upd (F : Fr C N G H ε σ) {p : Addr} {o o' : HO} (hp : H p = some o) (ho : Soft p o) (hg : G p = none) (h0 : N.H0 p = none) (hs : ∀ i, C.cl i ≠ .pl → σ[i]? ≠ some (some (.ref p))) : Fr C N G (L2.upd H p o') ε σ where
  sub := fun b u e => by
    rw [upd_ne (fun z => by rw [z, hg] at e; cases e)]
    exact F.sub b u e
  ntb := F.ntb
  tab := fun P m => (F.tab P m).over hp ho
  len := F.len
  ln := F.ln
  pl := F.pl
  mu := fun j e c h => by
    obtain ⟨a, h1, h2⟩ := F.mu j e c h
    refine ⟨a, h1, h2.mono (Sub.refl _) h2.none fun u hu => ?_⟩
    rw [upd_ne (fun z => hs j (by rw [c]; simp) (by rw [h1, z]))]
    exact hu
  bo := fun j e c h => by
    obtain ⟨v, h1, h2⟩ := F.bo j e c h
    refine ⟨v, h1, ?_⟩
    have hb : ∀ b, v = .ref b → b ≠ p := fun b z y => hs j (by rw [c]; simp) (by rw [h1, z, y])
    cases e with
    | lst ds =>
      obtain ⟨b, xs, rfl, k1, k2⟩ := h2
      exact ⟨b, xs, rfl, by rw [upd_ne (hb b rfl)]; exact k1, k2⟩
    | dct ds =>
      obtain ⟨b, rfl, k⟩ := h2
      refine ⟨b, rfl, ?_⟩
      rw [upd_ne (hb b rfl)]
      exact k
    | dtt ds =>
      obtain ⟨b, rfl, k⟩ := h2
      refine ⟨b, rfl, ?_⟩
      rw [upd_ne (hb b rfl)]
      exact k
    | non => exact h2
    | bl _ => exact h2
    | int _ => exact h2
    | str _ => exact h2
    | tup _ => exact h2
    | rol _ => exact h2
    | fn _ => exact h2
    | obj _ _ => exact h2
  boc := F.boc
  dis := F.dis
  dm := fun j a c h => by
    rw [upd_ne (fun z => hs j c (by rw [h, z]))]
    exact F.dm j a c h
  go := by
    refine ⟨F.go.ext, F.go.new, fun b u e m t => ?_, fun b ps e => ?_, fun P m t => ?_, fun b h => ?_⟩
    · rw [upd_ne (ne_of_none e h0)]
      exact F.go.keep b u e m t
    · rw [upd_ne (ne_of_none e h0)]
      exact F.go.tbl b ps e
    · exact (F.go.tabg P m t).over hp ho
    · unfold L2.upd
      split
      · simp
      · exact F.go.dom b h
  fre := F.fre
  io := F.io
/-- .. seen from where it was not there -/
theorem Go.upd {tabs : List Tab} {M : Addr → Prop} {G H G' H' : Hp} (g : Go tabs M G H G' H') {p : Addr} {o o' : HO} (h0 : H p = none) (hp : H' p = some o) (ho : Soft p o) : Go tabs M G H G' (L2.upd H' p o') := by
  refine ⟨g.ext, g.new, fun b u e m t => ?_, fun b ps e => ?_, fun P m t => ?_, fun b h => ?_⟩
  · rw [upd_ne (ne_of_none e h0)]
    exact g.keep b u e m t
  · rw [upd_ne (ne_of_none e h0)]
    exact g.tbl b ps e
  · exact (g.tabg P m t).over hp ho
  · unfold L2.upd
    split
    · simp
    · exact g.dom b h
end

/-! #### targets -/
def NmOk (X : Cx) (sc : Scope) (fn : Str → Bool) (i : Nat) (x : Str) : Prop := X.N[i]? = some x ∧ Loc sc x ∧ (fn x = true ∨ sc.names.lookup x = some .local)
theorem bindL_ok {N : En} {G H : Hp} {Q : L2.St → Hp → Prop} : ∀ {is : List Nat} {ds : List D} {vs : List V} {ε ε' : Env} {σ : L2.St}, Fr C N G H ε σ → RpL C.K C.fa G ds vs → bindL is ds ε = .ok ε' → (∀ i ∈ is, C.cl i = .pl ∧ i < σ.length) →
    (∀ σ', Fr C N G H ε' σ' → σ'.length = σ.length → (∀ j, j ∉ is → σ'[j]? = σ[j]?) → Q σ' H) → gNs is vs σ H Q
  | [], ds, vs, ε, ε', σ, F, r, h, hi, k => by
    cases ds with
    | nil =>
      cases h
      have r' : vs = [] := r
      exact ⟨r', k σ F rfl fun _ _ => rfl⟩
    | cons d ds => cases h
  | i :: is, ds, vs, ε, ε', σ, F, r, h, hi, k => by
    cases ds with
    | nil => cases h
    | cons d ds =>
      obtain ⟨v, rr, rfl, r1, r2⟩ := r
      obtain ⟨c1, l1⟩ := hi i (by simp)
      refine ⟨v, rr, rfl, ?_⟩
      show gNs is rr (σ.set i (some v)) H Q
      refine bindL_ok (F.set c1 l1 r1) r2 h (fun j hj => ⟨(hi j (List.mem_cons_of_mem _ hj)).1, by rw [List.length_set]; exact (hi j (List.mem_cons_of_mem _ hj)).2⟩) fun σ' F' hl ha => k σ' F' (by rw [hl, List.length_set]) fun j hj => ?_
      rw [ha j (fun z => hj (List.mem_cons_of_mem _ z)), List.getElem?_set_ne (fun z => hj (by simp [z]))]
theorem bindL_len : ∀ {is : List Nat} {ds : List D} {ε ε' : Env}, bindL is ds ε = .ok ε' → ds.length = is.length
  | [], [], _, _, _ => rfl
  | [], _ :: _, _, _, h => by cases h
  | _ :: _, [], _, _, h => by cases h
  | i :: is, d :: ds, ε, ε', h => by rw [List.length_cons, List.length_cons, bindL_len (show bindL is ds _ = _ from h)]
theorem bindT_ok {N : En} {G H : Hp} {Q : L2.St → Hp → Prop} {K : PySem.W.Frag} {tg : Tg} {d : D} {v : V} {ε ε' : Env} {σ : L2.St} (F : Fr C N G H ε σ) (r : RpY C G H tg d v) (h : bindT tg d ε = .ok ε') (hi : ∀ i ∈ tg.slots, C.cl i = .pl ∧ i < σ.length)
    (k : ∀ σ', Fr C N G H ε' σ' → σ'.length = σ.length → (∀ j, j ∉ tg.slots → σ'[j]? = σ[j]?) → Q σ' H) : tTg K tg v σ H Q := by
  cases tg with
  | nm i =>
    cases h
    have r : Rp C.K C.fa G d v := r.elim id fun ⟨_, _, _, _, e, _⟩ => by cases e
    obtain ⟨c1, l1⟩ := hi i (by simp [Tg.slots])
    refine k _ (F.set c1 l1 r) (List.length_set ..) fun j hj => ?_
    rw [List.getElem?_set_ne (fun z => hj (by simp [Tg.slots, z]))]
  | tp is =>
    cases d with
    | tup ds =>
      have r' : ∃ a xs, v = .ref a ∧ SqT K H a xs ∧ RpL C.K C.fa G ds xs := by
        rcases r with ⟨a, xs, e, h1, h2⟩ | ⟨_, _, a, xs, _, e, e2, h1, h2⟩
        · exact ⟨a, xs, e, (h1.mono F.sub).sq, h2⟩
        · cases e
          exact ⟨a, xs, e2, SqT.of h1, h2⟩
      obtain ⟨a, xs, rfl, h1, h2⟩ := r'
      refine ⟨a, xs, rfl, h1, ?_, bindL_ok F h2 h hi k⟩
      rw [← h2.len]
      exact bindL_len h
    | _ => cases h
theorem bindL_ne : ∀ (is : List Nat) (ds : List D) (ε : Env) c x, bindL is ds ε ≠ .er c x
  | [], [], _, _, _ => by simp [bindL]
  | [], _ :: _, _, _, _ => by simp [bindL]
  | _ :: _, [], _, _, _ => by simp [bindL]
  | i :: is, d :: ds, ε, c, x => bindL_ne is ds _ c x
theorem bindT_ne (tg : Tg) (d : D) (ε : Env) (c : Nat) (x : D) : bindT tg d ε ≠ .er c x := by
  cases tg with
  | nm i => simp [bindT]
  | tp is =>
    cases d with
    | tup ds => exact bindL_ne is ds ε c x
    | _ => simp [bindT]
end
end Ev
/-! ### comprehensions -/
namespace Ev
open PySem PySem.Spec PyProof.Rows L2
/-- within a block: nothing is raised -/
abbrev Cn.cut (C : Cn) : Cn := { C with W := fun _ _ _ => False }
section
variable {C : Cn} {X : Cx} {N : En} {G H : Hp} {ε : Env} {σ : L2.St}
theorem Fr.cut (F : Fr C N G H ε σ) : Fr C.cut N G H ε σ := ⟨F.sub, F.ntb, F.tab, F.len, F.ln, F.pl, F.mu, F.bo, F.boc, F.dis, F.dm, F.go, F.fre, F.io⟩
theorem Fr.uncut (F : Fr C.cut N G H ε σ) : Fr C N G H ε σ := ⟨F.sub, F.ntb, F.tab, F.len, F.ln, F.pl, F.mu, F.bo, F.boc, F.dis, F.dm, F.go, F.fre, F.io⟩
/-- tests of a clause -/
def tB (C : Cn) (p : Bool) (f : Env → Res (Bool × Env)) : TT := fun σ H Q => ∃ N G ε, Fr C N G H ε σ ∧ Post C N σ p G H (f ε) fun b _ H' _ => Q b H'
theorem ptsB_nil : PTs X [] (tB C true fun ε => .ok (true, ε)) := PTs.imp pts_nil fun σ H Q ⟨N, G, ε, F, w⟩ => Post.here F w
theorem ptsB_one {c : Expr} {p : Bool} {f : Env → Res (D × Env)} (h : PT X c (tT C p f)) : PTs X [c] (tB C p fun ε => (f ε).bind fun p => (truth p.1).bind fun t => .ok (t, p.2)) := pts_one h
/-- one turn's function -/
def turnF (fc : Env → Res (Bool × Env)) (fe : Env → Res (D × Env)) (ε : Env) : Res (Option D × Env) := ((fc ε).bind fun q => if q.1 = true then (fe q.2).bind fun r => .ok (some r.1, r.2) else .ok (none, q.2)).sure
theorem turnF_ne (fc : Env → Res (Bool × Env)) (fe : Env → Res (D × Env)) (ε : Env) (c : Nat) (x : D) : turnF fc fe ε ≠ .er c x := by
  unfold turnF
  generalize ((fc ε).bind fun q => if q.1 = true then (fe q.2).bind fun r => .ok (some r.1, r.2) else .ok (none, q.2)) = r
  cases r <;> simp [Res.sure]
theorem turnF_ok {fc : Env → Res (Bool × Env)} {fe : Env → Res (D × Env)} {ε ε2 : Env} {od : Option D} (h : turnF fc fe ε = .ok (od, ε2)) : ∃ b ε1, fc ε = .ok (b, ε1) ∧ ((b = true ∧ ∃ d, fe ε1 = .ok (d, ε2) ∧ od = some d) ∨ (b = false ∧ od = none ∧ ε2 = ε1)) := by
  unfold turnF at h
  cases h1 : fc ε with
  | no => rw [h1] at h; cases h
  | er c x => rw [h1] at h; cases h
  | ok q =>
    obtain ⟨b, ε1⟩ := q
    rw [h1] at h
    refine ⟨b, ε1, rfl, ?_⟩
    cases b with
    | false =>
      simp only [Res.bind_ok, Bool.false_eq_true, if_false, Res.sure, Res.ok.injEq, Prod.mk.injEq] at h
      exact .inr ⟨rfl, h.1.symm, h.2.symm⟩
    | true =>
      simp only [Res.bind_ok, if_true] at h
      cases h2 : fe ε1 with
      | no => rw [h2] at h; cases h
      | er c x => rw [h2] at h; cases h
      | ok r =>
        rw [h2] at h
        simp only [Res.bind_ok, Res.sure, Res.ok.injEq, Prod.mk.injEq] at h
        exact .inl ⟨rfl, r.1, by rw [← h.2], h.1.symm⟩
theorem bind_ne {α β : Type} {r : Res α} {k : α → Res β} (h1 : ∀ c x, r ≠ .er c x) (h2 : ∀ a c x, k a ≠ .er c x) (c : Nat) (x : D) : r.bind k ≠ .er c x := by
  cases r with
  | no => simp
  | er c' x' => exact absurd rfl (h1 c' x')
  | ok a => exact h2 a c x
theorem bind_inv {α β : Type} {r : Res α} {k : α → Res β} {b : β} (h : r.bind k = .ok b) : ∃ a, r = .ok a ∧ k a = .ok b := by
  cases r with
  | no => cases h
  | er c x => cases h
  | ok a => exact ⟨a, rfl, h⟩
theorem lcL_ne {tg : Tg} {f : Env → Res (Option D × Env)} {vs : List Nat} (hf : ∀ ε c x, f ε ≠ .er c x) : ∀ (xs : List D) (ε : Env) (c : Nat) (x : D), lcL tg f vs xs ε ≠ .er c x
  | [], ε, c, x => by simp [lcL]
  | y :: ys, ε, c, x => by
    unfold lcL
    exact bind_ne (bindT_ne tg y _) (fun a => bind_ne (hf a) fun q => bind_ne (lcL_ne hf ys q.2) fun r c x => by simp) c x
theorem lcL_cons {tg : Tg} {f : Env → Res (Option D × Env)} {vs : List Nat} {x : D} {xs : List D} {ε : Env} {r : List D × Env} (h : lcL tg f vs (x :: xs) ε = .ok r) :
    ∃ ε1 od ε2 r', bindT tg x (wipeE ε vs) = .ok ε1 ∧ f ε1 = .ok (od, ε2) ∧ lcL tg f vs xs ε2 = .ok (r', r.2) ∧ r.1 = od.toList ++ r' := by
  unfold lcL at h
  obtain ⟨ε1, h1, h⟩ := bind_inv h
  obtain ⟨⟨od, ε2⟩, h2, h⟩ := bind_inv h
  obtain ⟨⟨r', ε3⟩, h3, h⟩ := bind_inv h
  cases h
  refine ⟨ε1, od, ε2, r', h1, h2, h3, ?_⟩
  cases od <;> rfl
theorem genL_ne {c0 : Bool} {tg : Tg} {f : Env → Res (Option D × Env)} {vs : List Nat} (hf : ∀ ε c x, f ε ≠ .er c x) : ∀ (xs : List D) (ε : Env) (c : Nat) (x : D), genL c0 tg f vs xs ε ≠ .er c x
  | [], ε, c, x => by simp [genL]
  | y :: ys, ε, c, x => by
    unfold genL
    refine bind_ne (bindT_ne tg y _) (fun a => bind_ne (hf a) fun q c x => ?_) c x
    split
    · exact genL_ne hf ys q.2 c x
    · split
      · exact genL_ne hf ys q.2 c x
      · simp
    · simp
/-- one turn -/
theorem turn_ok {vs : List Nat} {tg : Tg} {pc pe : Bool} {fc : Env → Res (Bool × Env)} {fe : Env → Res (D × Env)} {J : L2.It} {i : Nat} {x : V} {H1 : Hp} {ds : List D} {G0 : Hp} {d : D} {ε1 ε2 : Env} {od : Option D} {Kf : Option V → Hp → Prop}
    (hv : ∀ i ∈ vs, C.cl i = .pl ∧ i < σ.length) (hs : vs = tg.slots) {q : Bool} {H0 : Hp} (ij : ItOk C q tg G0 H0 J ds) (lt : Lt q G0 H0 G H) (F : Fr C N G H (wipeE ε vs) (wipe σ vs)) (hd : ds[i]? = some d) (hy : J.yld i H x H1) (hb : bindT tg d (wipeE ε vs) = .ok ε1) (ht : turnF fc fe ε1 = .ok (od, ε2))
    (k : ∀ G5 H5 ov, Fr C N G5 H5 (wipeE ε2 vs) (wipe σ vs) → Go C.tabs (Mx C σ (pc && pe)) G H G5 H5 → (match od, ov with
      | some d, some y => Rp C.K C.fa G5 d y
      | none, none => True
      | _, _ => False) → Kf ov H5) :
    tTg C.K tg x (wipe σ vs) H1 fun σ2 H2 => wipe σ2 vs = wipe σ vs ∧ tB C.cut pc fc σ2 H2 fun b H3 => if b = true then tR C.cut pe .esc fe σ2 H3 fun y H4 => Kf (some y) H4 else Kf none H3 := by
  obtain ⟨G2, F2, g2, rx⟩ := ij.yld i d N G H x H1 _ _ hd lt F hy
  refine bindT_ok F2 rx hb (fun j hj => ?_) fun σ2 F3 l3 a3 => ?_
  · have := hv j (by rw [hs]; exact hj)
    rw [wipe_length]
    exact this
  have hw : wipe σ2 vs = wipe σ vs := by
    apply List.ext_getElem?
    intro j
    by_cases hj : j ∈ vs
    · have l1 : j < σ2.length := by rw [l3, wipe_length]; exact (hv j hj).2
      have w1 : ∀ {ρ : L2.St} {us : List Nat}, j ∈ us → j < ρ.length → (wipe ρ us)[j]? = some none := by
        intro ρ us
        induction us with
        | nil => intro h; cases h
        | cons u us ih =>
          intro h hl
          rw [wipe]
          by_cases hu : u = j
          · subst hu
            rw [List.getElem?_set_self (by rw [wipe_length]; exact hl)]
          · rw [List.getElem?_set_ne hu]
            rcases List.mem_cons.mp h with z | z
            · exact absurd z.symm hu
            · exact ih z hl
      rw [w1 hj l1, w1 hj (hv j hj).2]
    · rw [wipe_ne hj, a3 j (by rw [← hs]; exact hj)]
  refine ⟨hw, ?_⟩
  have ms : ∀ p b, Mx C.cut σ2 p b → Mx C σ p b := fun p b z => ⟨z.1, by
    obtain ⟨i, c, e⟩ := z.2
    exact ms_wipe (C := C) (fun i hi => (hv i hi).1) hw ⟨i, c, e⟩⟩
  obtain ⟨b, ε3, e1, e2⟩ := turnF_ok ht
  refine ⟨N, G2, ε1, F3.cut, ?_⟩
  rw [e1]
  intro G3 H3 F4 g4
  have ga : Go C.tabs (Mx C σ (pc && pe)) G H G3 H3 := (g2.weak fun _ z => z.elim).trans (g4.weak fun b z => let y := ms _ _ z; ⟨by rw [y.1]; rfl, y.2⟩)
  rcases e2 with ⟨rfl, d', e3, rfl⟩ | ⟨rfl, rfl, rfl⟩
  · show tR C.cut pe .esc fe σ2 H3 fun y H4 => Kf (some y) H4
    refine ⟨N, G3, ε3, F4, ?_⟩
    rw [e3]
    intro G4 H4 F5 g5 v rv
    refine k G4 H4 (some v) ?_ (ga.trans (g5.weak fun b z => let y := ms _ _ z; ⟨by rw [y.1]; cases pc <;> rfl, y.2⟩)) rv
    have := F5.uncut.wipe (vs := vs) fun i hi => (hv i hi).1
    rw [hw] at this
    exact this
  · show Kf none H3
    refine k G3 H3 none ?_ ga trivial
    have := F4.uncut.wipe (vs := vs) fun i hi => (hv i hi).1
    rw [hw] at this
    exact this
theorem drop_at {α : Type} {l : List α} {i : Nat} {x : α} {r : List α} (h : l.drop i = x :: r) : l[i]? = some x ∧ l.drop (i + 1) = r ∧ i < l.length := by
  have h1 : (l.drop i)[0]? = some x := by rw [h]; rfl
  rw [List.getElem?_drop] at h1
  refine ⟨by simpa using h1, ?_, ?_⟩
  · rw [← List.drop_drop, h]
    rfl
  · have := (List.getElem?_eq_some_iff.mp h1).1
    omega
theorem lim_sz : LIM < sizeLine := by decide
/-- a list comprehension -/
def lcF (tg : Tg) (fi : Env → Res (List D × Env)) (ft : Env → Res (Option D × Env)) (ε : Env) : Res (D × Env) := (fi ε).bind fun p => (lcL tg ft tg.slots p.1 p.2).bind fun q => (sizeOk q.1).bind fun ds => .ok (.lst ds, backE p.2 q.2 tg.slots)
theorem lc_imp {tg : Tg} {pi pc pe q : Bool} (hq : q = true → (pc && pe) = true) {fi : Env → Res (List D × Env)} {fc : Env → Res (Bool × Env)} {fe : Env → Res (D × Env)} (hcl : ∀ i ∈ tg.slots, C.cl i = .pl) (hln : ∀ i ∈ tg.slots, i < C.N.length) {σ : L2.St} {H : Hp} {Q : VK}
    (w : tR C (pi && (pc && pe)) .frx (lcF tg fi (turnF fc fe)) σ H Q) : tLc (tI C pi q tg fi) (tTg C.K tg) (tB C.cut pc fc) (tR C.cut pe .esc fe) tg.slots σ H Q := by
  obtain ⟨N, G, ε, F, w⟩ := w
  refine ⟨N, G, ε, F, ?_⟩
  unfold lcF at w
  refine w.bind.imp fun ds G1 H1 ε1 F1 g1 w1 J ij D hD => ?_
  obtain ⟨⟨q1, q2⟩, hrun, w2⟩ := w1.val (lcL_ne (turnF_ne fc fe) ds ε1)
  obtain ⟨dd, hsz, w3⟩ := w2.val (fun c x => by unfold sizeOk; split <;> simp)
  have hdd : dd = q1 ∧ q1.length ≤ LIM := by
    unfold sizeOk at hsz
    split at hsz
    · cases hsz; exact ⟨rfl, by assumption⟩
    · cases hsz
  obtain ⟨rfl, hlim⟩ := hdd
  have ltk : ∀ {G' H' : Hp} {ε' : Env}, Sub G1 G' → Fr C N G' H' ε' (wipe σ tg.slots) → Go C.tabs (Mx C σ (pc && pe)) G1 H1 G' H' → Lt q G1 H1 G' H' := fun {G' H' ε'} sub F' g' =>
    ⟨sub, F'.sub, fun h b o e t => g'.keep b o e (fun z => by have := z.1; rw [hq h] at this; cases this) t⟩
  have hl1 := F1.ln
  have hv : ∀ i ∈ tg.slots, C.cl i = .pl ∧ i < σ.length := fun i h => ⟨hcl i h, by rw [hl1]; exact hln i h⟩
  have sD : ∀ i, C.cl i ≠ .pl → (wipe σ tg.slots)[i]? ≠ some (some (.ref D)) := fun i c z => by
    have hj : i ∉ tg.slots := fun y => c (hcl i y)
    rw [wipe_ne hj] at z
    exact F1.dm i D c z hD
  have mD : ∀ b, Mx C σ (pc && pe) b → b ≠ D := fun b z y => by
    obtain ⟨i, c, e⟩ := z.2
    exact F1.dm i b (by rw [c]; simp) e (by rw [y]; exact hD)
  have d0 : N.H0 D = none := F1.go.back hD
  refine ⟨fun i m H' => ∃ G' ε' acc accd rest, m = ds.length - i ∧ i ≤ ds.length ∧ H' D = some (.lst acc) ∧ G' D = none ∧ Sub G1 G' ∧ RpL C.K C.fa G' accd acc ∧ Fr C N G' H' (wipeE ε' tg.slots) (wipe σ tg.slots) ∧ Go C.tabs (Mx C σ (pc && pe)) G1 H1 G' H' ∧ lcL tg (turnF fc fe) tg.slots (ds.drop i) ε' = .ok (rest, q2) ∧ accd ++ rest = dd, ?_, ?_⟩
  · obtain ⟨F2, g2⟩ := F1.newH (o := .lst []) hD
    exact ⟨ds.length, G1, ε1, [], [], dd, rfl, Nat.zero_le _, upd_same, F1.gnone hD, Sub.refl _, rfl, F2.wipe hcl, g2.weak fun _ z => z.elim, hrun, rfl⟩
  · rintro i m H' ⟨G', ε', acc, accd, rest, rfl, hi', hacc, hGD, sub, racc, F', g', hr, happ⟩
    cases hdr : ds.drop i with
    | nil =>
      rw [hdr] at hr
      cases hr
      have hil : ds.length ≤ i := by
        have := congrArg List.length hdr
        simp at this
        omega
      refine .inl ⟨ij.stop i G' H' (ltk sub F' g') hil, ?_⟩
      rw [List.append_nil] at happ
      subst happ
      have FB := F1.back hcl sub F'
      refine w3 G' H' FB (g'.weak fun b z => ⟨?_, z.2⟩) (.ref D) ⟨fun _ => ⟨D, rfl, g1.back hD, hGD, acc, hacc, racc⟩, fun z => by cases z⟩
      have := z.1
      cases pc <;> cases pe <;> first | rfl | cases this
    | cons x xs =>
      obtain ⟨hx, hx2, hlt⟩ := drop_at hdr
      rw [hdr] at hr
      obtain ⟨ε2, od, ε3, r', e1, e2, e3, e4⟩ := lcL_cons hr
      have e4 : rest = od.toList ++ r' := e4
      refine .inr ⟨ij.go i G' H' (ltk sub F' g') hlt, fun H5 => ∃ G' ε' acc accd rest, H5 D = some (.lst acc) ∧ G' D = none ∧ Sub G1 G' ∧ RpL C.K C.fa G' accd acc ∧ Fr C N G' H5 (wipeE ε' tg.slots) (wipe σ tg.slots) ∧ Go C.tabs (Mx C σ (pc && pe)) G1 H1 G' H5 ∧ lcL tg (turnF fc fe) tg.slots (ds.drop (i + 1)) ε' = .ok (rest, q2) ∧ accd ++ rest = dd,
        fun H5 ⟨G', ε', acc, accd, rest, h⟩ => ⟨ds.length - (i + 1), by omega, G', ε', acc, accd, rest, rfl, by omega, h⟩, fun v H2 hy => ?_⟩
      refine turn_ok (G0 := G1) (H0 := H1) (Kf := fun ov H4 => match ov with
        | some y => ∃ acc, H4 D = some (.lst acc) ∧ acc.length < sizeLine ∧ ∃ G' ε' acc' accd rest, upd H4 D (.lst (acc ++ [y])) D = some (.lst acc') ∧ G' D = none ∧ Sub G1 G' ∧ RpL C.K C.fa G' accd acc' ∧ Fr C N G' (upd H4 D (.lst (acc ++ [y]))) (wipeE ε' tg.slots) (wipe σ tg.slots) ∧ Go C.tabs (Mx C σ (pc && pe)) G1 H1 G' (upd H4 D (.lst (acc ++ [y]))) ∧ lcL tg (turnF fc fe) tg.slots (ds.drop (i + 1)) ε' = .ok (rest, q2) ∧ accd ++ rest = dd
        | none => ∃ G' ε' acc accd rest, H4 D = some (.lst acc) ∧ G' D = none ∧ Sub G1 G' ∧ RpL C.K C.fa G' accd acc ∧ Fr C N G' H4 (wipeE ε' tg.slots) (wipe σ tg.slots) ∧ Go C.tabs (Mx C σ (pc && pe)) G1 H1 G' H4 ∧ lcL tg (turnF fc fe) tg.slots (ds.drop (i + 1)) ε' = .ok (rest, q2) ∧ accd ++ rest = dd)
        hv rfl ij (ltk sub F' g') F' hx hy e1 e2 fun G5 H5 ov F5 g5 hov => ?_
      have keepD : H5 D = some (.lst acc) := g5.keep D _ hacc (fun z => mD D z rfl) (fun ps z => by cases z)
      have g15 := g'.trans g5
      have gD : G5 D = none := by
        cases hq : G5 D with
        | none => rfl
        | some u =>
          rcases g5.new D (by rw [hq]; simp) with z | z
          · exact absurd hGD z
          · rw [hacc] at z; cases z
      cases od with
      | none =>
        cases ov with
        | some y => exact hov.elim
        | none => exact ⟨G5, ε3, acc, accd, r', keepD, gD, sub.trans g5.ext, racc.mono g5.ext, F5, g15, by rw [hx2]; exact e3, by rw [← happ, e4]; rfl⟩
      | some d =>
        cases ov with
        | none => exact hov.elim
        | some y =>
          have hla : acc.length < sizeLine := by
            have l1 := racc.len
            have l2 := congrArg List.length happ
            rw [List.length_append] at l2
            have := lim_sz
            omega
          exact ⟨acc, keepD, hla, G5, ε3, acc ++ [y], accd ++ [d], r', upd_same, gD, sub.trans g5.ext, (racc.mono g5.ext).snoc hov, F5.upd keepD Soft.lst gD d0 sD, g15.upd hD keepD Soft.lst, by rw [hx2]; exact e3, by rw [← happ, e4]; simp⟩
theorem pe_lcA {elt tgE iter : Expr} {ifs : List Expr} {scope : Scope} {own : List (Str × Nat)} {pos : Pos} {tg : Tg} {pi pc pe q : Bool} (hq : q = true → (pc && pe) = true) {fi : Env → Res (List D × Env)} {fc : Env → Res (Bool × Env)} {fe : Env → Res (D × Env)}
    (hc : X.calm = true) (hN : X.N.Nodup) (hcl : ∀ i ∈ tg.slots, C.cl i = .pl) (hln : ∀ i ∈ tg.slots, i < C.N.length) (ho : own.map (·.2) = tg.slots) (ok : BlkOk X.N X.env.scope scope own) (hi : PI X tgE iter (tI C pi q tg fi))
    (hg : ∀ (s : Shared) (H : Hp) (c : Addr) (cl : List (Str × Addr)) (fp : List Addr), PG (X.blk s H scope (compEnvC scope cl c X.env) fp) tgE (tTg C.K tg))
    (ht : ∀ (s : Shared) (H : Hp) (c : Addr) (cl : List (Str × Addr)) (fp : List Addr), PTs (X.blk s H scope (compEnvC scope cl c X.env) fp) ifs (tB C.cut pc fc))
    (he : ∀ (s : Shared) (H : Hp) (c : Addr) (cl : List (Str × Addr)) (fp : List Addr), PE (X.blk s H scope (compEnvC scope cl c X.env) fp) elt (tR C.cut pe .esc fe)) (hs : ∀ x, foldedSetIterable iter X.env x = pure x) :
    PE X (.ListComp elt [⟨tgE, iter, ifs, 0⟩] scope pos) (tR C (pi && (pc && pe)) .frx (lcF tg fi (turnF fc fe))) :=
  PE.imp (pe_lc hc hN hi ok hg ht he hs) fun σ H Q w => by rw [ho]; exact lc_imp hq hcl hln w
/-! #### all, any -/
def geF (c : Bool) (tg : Tg) (fi : Env → Res (List D × Env)) (ft : Env → Res (Option D × Env)) (ε : Env) : Res (D × Env) := (fi ε).bind fun p => (genL c tg ft tg.slots p.1 p.2).bind fun q => .ok (.bl q.1, backE p.2 q.2 tg.slots)
theorem genL_cons {c : Bool} {tg : Tg} {f : Env → Res (Option D × Env)} {vs : List Nat} {x : D} {xs : List D} {ε : Env} {r : Bool × Env} (h : genL c tg f vs (x :: xs) ε = .ok r) :
    ∃ ε1 od ε2, bindT tg x (wipeE ε vs) = .ok ε1 ∧ f ε1 = .ok (od, ε2) ∧ ((od = none ∧ genL c tg f vs xs ε2 = .ok r) ∨ (od = some (.bl c) ∧ genL c tg f vs xs ε2 = .ok r) ∨ (od = some (.bl !c) ∧ r = (!c, ε2))) := by
  unfold genL at h
  obtain ⟨ε1, h1, h⟩ := bind_inv h
  obtain ⟨⟨od, ε2⟩, h2, h⟩ := bind_inv h
  refine ⟨ε1, od, ε2, h1, h2, ?_⟩
  dsimp only at h
  split at h
  · exact .inl ⟨rfl, h⟩
  · rename_i b
    split at h
    · rename_i hb
      have : b = c := by simpa using hb
      subst this
      exact .inr (.inl ⟨rfl, h⟩)
    · rename_i hb
      cases h
      refine .inr (.inr ⟨?_, rfl⟩)
      cases b <;> cases c <;> first | rfl | exact absurd rfl hb
  · cases h
theorem gen_imp {c : Bool} {P : Addr} {gpos : Pos} {tg : Tg} {pi pc pe q : Bool} (hq : q = true → (pc && pe) = true) {fi : Env → Res (List D × Env)} {fc : Env → Res (Bool × Env)} {fe : Env → Res (D × Env)} (hP : (P, none) ∈ C.tabs) (hPu : ∀ p ∈ C.tabs, p.1 = P → p.2 = none) (hcl : ∀ i ∈ tg.slots, C.cl i = .pl) (hln : ∀ i ∈ tg.slots, i < C.N.length) {σ : L2.St} {H : Hp} {Q : VK}
    (w : tR C (pi && (pc && pe)) .esc (geF c tg fi (turnF fc fe)) σ H Q) : Gx.tGen P gpos (tI C pi q tg fi) (tTg C.K tg) (tB C.cut pc fc) (tR C.cut pe .esc fe) tg.slots c σ H Q := by
  obtain ⟨N, G, ε, F, w⟩ := w
  refine ⟨N, G, ε, F, ?_⟩
  unfold geF at w
  refine w.bind.imp fun ds G1 H1 ε1 F1 g1 w1 J ij => ⟨F1.tab (P, none) hP, fun H2 tx => ?_⟩
  obtain ⟨⟨q1, q2⟩, hrun, w3⟩ := w1.val (genL_ne (turnF_ne fc fe) ds ε1)
  have ltk : ∀ {G' H' : Hp} {ε' : Env}, Sub G1 G' → Fr C N G' H' ε' (wipe σ tg.slots) → Go C.tabs (Mx C σ (pc && pe)) G1 H1 G' H' → Lt q G1 H1 G' H' := fun {G' H' ε'} sub F' g' =>
    ⟨sub, F'.sub, fun h b o e t => g'.keep b o e (fun z => by have := z.1; rw [hq h] at this; cases this) t⟩
  have hl1 := F1.ln
  have hv : ∀ i ∈ tg.slots, C.cl i = .pl ∧ i < σ.length := fun i h => ⟨hcl i h, by rw [hl1]; exact hln i h⟩
  obtain ⟨⟨ps, ps', hp1, hp2, hp3, hp4⟩, hsame⟩ := tx
  have gN : ∀ b u, G1 b = some u → b ≠ P := fun b u e z => by
    have := F1.sub b u e
    rw [z, hp1] at this
    cases this
    exact F1.ntb b _ e
  have gt : Go C.tabs (fun _ => False) G1 H1 G1 H2 := by
    refine ⟨Sub.refl _, fun b h => .inl h, fun b u e _ t => ?_, fun b qs e => ?_, fun P' m t => ?_, fun b h => ?_⟩
    · rw [hsame b (fun z => by rw [z, hp1] at e; exact t ps (Option.some.inj e).symm)]
      exact e
    · by_cases hb : b = P
      · exact ⟨ps', by rw [hb]; exact hp2⟩
      · exact ⟨qs, by rw [hsame b hb]; exact e⟩
    · by_cases hb : P'.1 = P
      · have hq := hPu P' m hb
        obtain ⟨P', q'⟩ := P'
        have hb : P' = P := hb
        have hq : q' = none := hq
        subst hb hq
        exact ⟨ps', hp2, hp3⟩
      · exact t.keep (fun qs e => by rw [hsame _ hb]; exact e) fun d q e => by
          rw [hsame d (fun z => by
            rw [z, hp1] at e
            obtain ⟨φ, e'⟩ := codeO_isX P q
            rw [e'] at e
            cases e)]
          exact e
    · by_cases hb : b = P
      · rw [hb, hp2]; simp
      · rw [hsame b hb]; exact h
  have F2 : Fr C N G1 H2 ε1 σ := F1.step gt (fun b u e => by rw [hsame b (gN b u e)]; exact F1.sub b u e) F1.ntb
  refine ⟨fun i m H' => ∃ G' ε', m = ds.length - i ∧ i ≤ ds.length ∧ Sub G1 G' ∧ Fr C N G' H' (wipeE ε' tg.slots) (wipe σ tg.slots) ∧ Go C.tabs (Mx C σ (pc && pe)) G1 H1 G' H' ∧ genL c tg (turnF fc fe) tg.slots (ds.drop i) ε' = .ok (q1, q2), ⟨ds.length, G1, ε1, rfl, Nat.zero_le _, Sub.refl _, F2.wipe hcl, gt.weak fun _ z => z.elim, hrun⟩, ?_⟩
  have fin : ∀ {G' : Hp} {H' : Hp}, Sub G1 G' → Fr C N G' H' (wipeE q2 tg.slots) (wipe σ tg.slots) → Go C.tabs (Mx C σ (pc && pe)) G1 H1 G' H' → Q (.bl q1) H' := fun {G' H'} sub F' g' =>
    w3 G' H' (F1.back hcl sub F') (g'.weak fun b z => z) _ rfl
  rintro i m H' ⟨G', ε', rfl, hi', sub, F', g', hr⟩
  cases hdr : ds.drop i with
  | nil =>
    rw [hdr] at hr
    cases hr
    have hil : ds.length ≤ i := by
      have := congrArg List.length hdr
      simp at this
      omega
    exact .inl ⟨ij.stop i G' H' (ltk sub F' g') hil, fin sub F' g'⟩
  | cons x xs =>
    obtain ⟨hx, hx2, hlt⟩ := drop_at hdr
    rw [hdr] at hr
    obtain ⟨ε2, od, ε3, e1, e2, e3⟩ := genL_cons hr
    refine .inr ⟨ij.go i G' H' (ltk sub F' g') hlt, fun H5 => ∃ G' ε', Sub G1 G' ∧ Fr C N G' H5 (wipeE ε' tg.slots) (wipe σ tg.slots) ∧ Go C.tabs (Mx C σ (pc && pe)) G1 H1 G' H5 ∧ genL c tg (turnF fc fe) tg.slots (ds.drop (i + 1)) ε' = .ok (q1, q2),
      fun H5 ⟨G', ε', h⟩ => ⟨ds.length - (i + 1), by omega, G', ε', rfl, by omega, h⟩, fun v H3 hy => ?_⟩
    refine turn_ok (G0 := G1) (H0 := H1) (Kf := fun ov H4 => match ov with
      | some y => ∃ k, y = .bl k ∧ (k = c → ∃ G' ε', Sub G1 G' ∧ Fr C N G' H4 (wipeE ε' tg.slots) (wipe σ tg.slots) ∧ Go C.tabs (Mx C σ (pc && pe)) G1 H1 G' H4 ∧ genL c tg (turnF fc fe) tg.slots (ds.drop (i + 1)) ε' = .ok (q1, q2)) ∧ (k = !c → Q (.bl (!c)) H4)
      | none => ∃ G' ε', Sub G1 G' ∧ Fr C N G' H4 (wipeE ε' tg.slots) (wipe σ tg.slots) ∧ Go C.tabs (Mx C σ (pc && pe)) G1 H1 G' H4 ∧ genL c tg (turnF fc fe) tg.slots (ds.drop (i + 1)) ε' = .ok (q1, q2))
      hv rfl ij (ltk sub F' g') F' hx hy e1 e2 fun G5 H5 ov F5 g5 hov => ?_
    have g15 := g'.trans g5
    have nx : ∀ {r}, genL c tg (turnF fc fe) tg.slots xs ε3 = .ok r → r = (q1, q2) → ∃ G' ε', Sub G1 G' ∧ Fr C N G' H5 (wipeE ε' tg.slots) (wipe σ tg.slots) ∧ Go C.tabs (Mx C σ (pc && pe)) G1 H1 G' H5 ∧ genL c tg (turnF fc fe) tg.slots (ds.drop (i + 1)) ε' = .ok (q1, q2) := fun {r} e er =>
      ⟨G5, ε3, sub.trans g5.ext, F5, g15, by rw [hx2, e, er]⟩
    rcases e3 with ⟨rfl, e3⟩ | ⟨rfl, e3⟩ | ⟨rfl, e3⟩
    · cases ov with
      | some y => exact hov.elim
      | none => exact nx e3 rfl
    · cases ov with
      | none => exact hov.elim
      | some y =>
        have hy : y = .bl c := hov
        exact ⟨c, hy, fun _ => nx e3 rfl, fun z => by cases c <;> cases z⟩
    · cases ov with
      | none => exact hov.elim
      | some y =>
        have hy : y = .bl !c := hov
        have eq1 : q1 = !c := congrArg Prod.fst e3
        have eq2 : q2 = ε3 := congrArg Prod.snd e3
        subst eq2
        have q := fin (sub.trans g5.ext) F5 g15
        rw [eq1] at q
        exact ⟨!c, hy, (fun z => by cases c <;> cases z), fun _ => q⟩
end
end Ev
/-! ### statements -/
namespace Ev
open PySem PySem.Spec PyProof.Rows L2
section
variable {C : Cn} {X : Cx} {N : En} {G H G' H' : Hp} {ε : Env} {σ : L2.St}
/-- from the entry to a state behind the present one -/
theorem Fr.out (F : Fr C N G H ε σ) (g : Go C.tabs (Ms C σ) G H G' H') : Go C.tabs (fun b => N.io = some b) N.G0 N.H0 G' H' := by
  refine ⟨F.go.ext.trans g.ext, fun b h => ?_, fun b u e m t => ?_, fun b ps e => ?_, fun P m h => g.tabg P m (F.go.tabg P m h), fun b h => g.dom b (F.go.dom b h)⟩
  · rcases g.new b h with z | z
    · exact F.go.new b z
    · exact .inr (F.go.back z)
  · refine g.keep b u (F.go.keep b u e m t) (fun z => ?_) t
    obtain ⟨i, c, hs⟩ := z
    rcases F.fre i b c hs with q | q
    · rw [q] at e; cases e
    · exact m q
  · obtain ⟨ps', e'⟩ := F.go.tbl b ps e
    exact g.tbl b ps' e'
/-- a new container becomes a changed slot's -/
theorem Fr.setM (F : Fr C N G H ε σ) {i : Nat} {d : D} {p : Addr} (hc : C.cl i = .mu) (h0 : i ≠ 0) (hl : i < σ.length) (r : TopM C.K C.fa G H d p) (hN : N.H0 p = none) (hs : ∀ j, C.cl j ≠ .pl → σ[j]? ≠ some (some (.ref p))) : Fr C N G H (ε.set i (some d)) (σ.set i (some (.ref p))) where
  sub := F.sub
  ntb := F.ntb
  tab := F.tab
  len := by rw [List.length_set, List.length_set]; exact F.len
  ln := by rw [List.length_set]; exact F.ln
  pl := fun j e c h => by
    have hj : i ≠ j := fun z => by rw [z, c] at hc; cases hc
    rw [List.getElem?_set_ne hj] at h ⊢
    exact F.pl j e c h
  mu := fun j e c h => by
    by_cases hj : i = j
    · subst hj
      rw [List.getElem?_set_self (by rw [F.len]; exact hl)] at h
      cases h
      exact ⟨p, List.getElem?_set_self hl, r⟩
    · rw [List.getElem?_set_ne hj] at h ⊢
      exact F.mu j e c h
  bo := fun j e c h => by
    have hj : i ≠ j := fun z => by rw [z, c] at hc; cases hc
    rw [List.getElem?_set_ne hj] at h ⊢
    exact F.bo j e c h
  boc := fun j e c h => by
    have hj : i ≠ j := fun z => by rw [z, c] at hc; cases hc
    rw [List.getElem?_set_ne hj] at h
    exact F.boc j e c h
  dis := fun j k a c1 c2 h1 h2 => by
    by_cases hj : i = j
    · subst hj
      rw [List.getElem?_set_self hl] at h1
      cases h1
      by_cases hk : i = k
      · exact hk
      · rw [List.getElem?_set_ne hk] at h2
        exact absurd h2 (hs k (by rw [c2]; simp))
    · rw [List.getElem?_set_ne hj] at h1
      by_cases hk : i = k
      · subst hk
        rw [List.getElem?_set_self hl] at h2
        cases h2
        exact absurd h1 (hs j c1)
      · rw [List.getElem?_set_ne hk] at h2
        exact F.dis j k a c1 c2 h1 h2
  dm := fun j a c h => by
    by_cases hj : i = j
    · subst hj
      rw [List.getElem?_set_self hl] at h
      cases h
      obtain ⟨o, ho, _⟩ := r.there
      rw [ho]
      simp
    · rw [List.getElem?_set_ne hj] at h
      exact F.dm j a c h
  go := F.go
  fre := fun j a c h => by
    by_cases hj : i = j
    · subst hj
      rw [List.getElem?_set_self hl] at h
      cases h
      exact .inl hN
    · rw [List.getElem?_set_ne hj] at h
      exact F.fre j a c h
  io := fun a h => by
    obtain ⟨h1, h2, d, h3⟩ := F.io a h
    exact ⟨h1, by rw [List.getElem?_set_ne h0]; exact h2, d, by rw [List.getElem?_set_ne h0]; exact h3⟩
/-- a changed slot's object gets another content -/
theorem Fr.muts (F : Fr C N G H ε σ) {i : Nat} {a : Addr} {o o' : HO} {d : D} (hc : C.cl i = .mu) (hs : σ[i]? = some (some (.ref a))) (ho : H a = some o) (ht : Soft a o) (hd : TopM C.K C.fa G (L2.upd H a o') d a) : Fr C N G (L2.upd H a o') (ε.set i (some d)) σ := by
  have gn : G a = none := hd.none
  refine F.mutd hc hs ⟨Sub.refl _, fun b h => .inl h, fun b u e m t => ?_, fun b ps e => ⟨ps, ?_⟩, fun P m t => ?_, fun b h => ?_⟩ (fun b u e => ?_) F.ntb hd
  · rw [upd_ne m]; exact e
  · rw [upd_ne (fun z => by rw [z, ho] at e; exact ht.1 ps (Option.some.inj e))]; exact e
  · exact t.over ho ht
  · unfold L2.upd
    split
    · simp
    · exact h
  · rw [upd_ne (fun z => by rw [z, gn] at e; cases e)]
    exact F.sub b u e

/-! #### readings -/
def KeepS (as : List Nat) (σ σ' : L2.St) : Prop := ∀ j, j ∉ as → σ'[j]? = σ[j]?
theorem KeepS.refl (as : List Nat) (σ : L2.St) : KeepS as σ σ := fun _ _ => rfl
theorem KeepS.trans {as : List Nat} {σ σ1 σ2 : L2.St} (a : KeepS as σ σ1) (b : KeepS as σ1 σ2) : KeepS as σ σ2 := fun j h => (b j h).trans (a j h)
theorem KeepS.sub {as as' : List Nat} {σ σ1 : L2.St} (a : KeepS as σ σ1) (h : ∀ j ∈ as, j ∈ as') : KeepS as' σ σ1 := fun j hj => a j fun z => hj (h j z)
theorem KeepS.set {as : List Nat} {σ : L2.St} {i : Nat} {v : Option V} (h : i ∈ as) : KeepS as σ (σ.set i v) := fun j hj => List.getElem?_set_ne fun z => hj (by rw [← z]; exact h)
structure RtOk (C : Cn) (N : En) (G' H' : Hp) (ε' : Env) (d : D) (v : V) : Prop where
  sub : Sub G' H'
  ntb : ∀ b ps, G' b ≠ some (.tbl ps)
  go : Go C.tabs (fun b => N.io = some b) N.G0 N.H0 G' H'
  rp : Rp C.K C.fa G' d v
  io : ∀ a, N.io = some a → ∃ d0, ε'[0]? = some (some d0) ∧ TopM C.K C.fa G' H' d0 a
def SQ (C : Cn) (N : En) (σ : L2.St) (G : Hp) (as : List Nat) (D : Ends) (r : Res (Fl × Env)) : Prop := match r with
  | .ok (.nx, ε') => ∀ G' H' σ', Fr C N G' H' ε' σ' → Sub G G' → KeepS as σ σ' → D.nx σ' H'
  | .ok (.bk, ε') => ∀ G' H' σ', Fr C N G' H' ε' σ' → Sub G G' → KeepS as σ σ' → D.bk σ' H'
  | .ok (.ct, ε') => ∀ G' H' σ', Fr C N G' H' ε' σ' → Sub G G' → KeepS as σ σ' → D.ct σ' H'
  | .ok (.rt d, ε') => ∀ G' H' v, RtOk C N G' H' ε' d v → D.rt v H'
  | .er c x => ∀ G' H' cls dd, Go C.tabs (fun b => N.io = some b) N.G0 N.H0 G' H' → C.exr c x cls dd H' → C.W cls dd H'
  | .no => False
def tS (C : Cn) (as : List Nat) (f : Env → Res (Fl × Env)) : TS := fun D σ H => ∃ N G ε, Fr C N G H ε σ ∧ SQ C N σ G as D (f ε)
theorem PS.imp {st : Stmt} {t t' : TS} (h : PS X st t) (k : ∀ D σ H, t' D σ H → t D σ H) : PS X st t' := ⟨fun pins s σ H D I w => h.run pins s σ H D I (k D σ H w)⟩
theorem PSs.imp {st : List Stmt} {t t' : TS} (h : PSs X st t) (k : ∀ D σ H, t' D σ H → t D σ H) : PSs X st t' := ⟨fun pins s σ H D I w => h.run pins s σ H D I (k D σ H w)⟩
/-- seen from a later state -/
theorem SQ.mv {as as2 : List Nat} {D D' : Ends} {r : Res (Fl × Env)} {σ' : L2.St} (h : SQ C N σ G as D r) (k : KeepS as σ σ') (sub : Sub G G') (hs : ∀ j ∈ as2, j ∈ as)
    (h1 : ∀ σ H, D.nx σ H → D'.nx σ H) (h2 : ∀ σ H, D.bk σ H → D'.bk σ H) (h3 : ∀ σ H, D.ct σ H → D'.ct σ H) (h4 : ∀ v H, D.rt v H → D'.rt v H) : SQ C N σ' G' as2 D' r := by
  cases r with
  | no => exact h
  | er c x => exact h
  | ok q =>
    obtain ⟨fl, ε'⟩ := q
    cases fl with
    | nx => exact fun G2 H2 σ2 F s k2 => h1 _ _ (h G2 H2 σ2 F (sub.trans s) (k.trans (k2.sub hs)))
    | bk => exact fun G2 H2 σ2 F s k2 => h2 _ _ (h G2 H2 σ2 F (sub.trans s) (k.trans (k2.sub hs)))
    | ct => exact fun G2 H2 σ2 F s k2 => h3 _ _ (h G2 H2 σ2 F (sub.trans s) (k.trans (k2.sub hs)))
    | rt d => exact fun G2 H2 v r => h4 _ _ (h G2 H2 v r)
theorem SQ.mv' {as as2 : List Nat} {D : Ends} {r : Res (Fl × Env)} {σ' : L2.St} (h : SQ C N σ G as D r) (k : KeepS as σ σ') (sub : Sub G G') (hs : ∀ j ∈ as2, j ∈ as) : SQ C N σ' G' as2 D r :=
  h.mv k sub hs (fun _ _ z => z) (fun _ _ z => z) (fun _ _ z => z) (fun _ _ z => z)
theorem SQ.bind {α : Type} {p : Bool} {as : List Nat} {D : Ends} {r : Res (α × Env)} {k : α × Env → Res (Fl × Env)} (F : Fr C N G H ε σ) (h : SQ C N σ G as D (r.bind k)) : Post C N σ p G H r fun a G1 H1 ε1 => SQ C N σ G1 as D (k (a, ε1)) := by
  cases r with
  | no => exact h
  | er c x => exact fun G' H' cls dd g e => h G' H' cls dd (F.out (g.weak fun b z => z.2)) e
  | ok q => exact fun G1 H1 F1 g1 => SQ.mv' (r := k q) h (KeepS.refl _ _) g1.ext fun _ z => z
theorem SQ.val {α : Type} {as : List Nat} {D : Ends} {r : Res α} {k : α → Res (Fl × Env)} (h : SQ C N σ G as D (r.bind k)) (hr : ∀ c x, r ≠ .er c x) : ∃ a, r = .ok a ∧ SQ C N σ G as D (k a) := by
  cases r with
  | no => exact h.elim
  | er c x => exact absurd rfl (hr c x)
  | ok a => exact ⟨a, rfl, h⟩

/-! #### blocks -/
theorem bs_nil : PSs X [] (tS C [] fun ε => .ok (.nx, ε)) := PSs.imp pss_nil fun D σ H ⟨N, G, ε, F, w⟩ => w G H σ F (Sub.refl _) (KeepS.refl _ _)
theorem bs_cons {s : Stmt} {r : List Stmt} {a1 a2 : List Nat} {f g : Env → Res (Fl × Env)} (h1 : PS X s (tS C a1 f)) (h2 : PSs X r (tS C a2 g)) : PSs X (s :: r) (tS C (a1 ++ a2) fun ε => (f ε).bind fun q => match q.1 with
      | .nx => g q.2
      | _ => .ok q) := by
  refine PSs.imp (pss_cons h1 h2) fun D σ H ⟨N, G, ε, F, w⟩ => ⟨N, G, ε, F, ?_⟩
  have s1 : ∀ j ∈ a1, j ∈ a1 ++ a2 := fun j z => List.mem_append_left _ z
  have s2 : ∀ j ∈ a2, j ∈ a1 ++ a2 := fun j z => List.mem_append_right _ z
  dsimp only at w
  revert w
  cases f ε with
  | no => exact fun w => w
  | er c x => exact fun w => w
  | ok q =>
    obtain ⟨fl, ε'⟩ := q
    cases fl with
    | nx => exact fun w G' H' σ' F' sub k => ⟨N, G', ε', F', SQ.mv' (r := g ε') w (k.sub s1) sub s2⟩
    | bk => exact fun w G' H' σ' F' sub k => w G' H' σ' F' sub (k.sub s1)
    | ct => exact fun w G' H' σ' F' sub k => w G' H' σ' F' sub (k.sub s1)
    | rt d => exact fun w => w
variable {pos : Pos} {e a b c : Expr} {f g h : Env → Res (D × Env)} {p pa pb pc : Bool}
theorem st_pas : PS X (.Pass pos) (tS C [] fun ε => .ok (.nx, ε)) := PS.imp ps_pass fun D σ H ⟨N, G, ε, F, w⟩ => w G H σ F (Sub.refl _) (KeepS.refl _ _)
theorem st_doc {x j pos'} : PS X (.Expr (.Constant (.str x) j pos') pos) (tS C [] fun ε => .ok (.nx, ε)) := PS.imp ps_doc fun D σ H ⟨N, G, ε, F, w⟩ => w G H σ F (Sub.refl _) (KeepS.refl _ _)
theorem st_brk : PS X (.Break pos) (tS C [] fun ε => .ok (.bk, ε)) := PS.imp ps_break fun D σ H ⟨N, G, ε, F, w⟩ => w G H σ F (Sub.refl _) (KeepS.refl _ _)
theorem st_cnt : PS X (.Continue pos) (tS C [] fun ε => .ok (.ct, ε)) := PS.imp ps_continue fun D σ H ⟨N, G, ε, F, w⟩ => w G H σ F (Sub.refl _) (KeepS.refl _ _)
theorem st_exp {m : Mo} (he : PE X e (tR C p m f)) (hs : swapsWith e none pos.line X.env = pure false) : PS X (.Expr e pos) (tS C [] fun ε => (f ε).bind fun p => .ok (.nx, p.2)) :=
  PS.imp (ps_expr he hs) fun D σ H ⟨N, G, ε, F, w⟩ => ⟨N, G, ε, F, (SQ.bind F w).imp fun d G1 H1 ε1 F1 g1 w1 v _ => w1 G1 H1 σ F1 (Sub.refl _) (KeepS.refl _ _)⟩
theorem Fr.rt {d : D} {v : V} (F : Fr C N G H ε σ) (r : Rp C.K C.fa G d v) : RtOk C N G H ε d v := ⟨F.sub, F.ntb, F.go, r, fun a h => by
  obtain ⟨h1, h2, d0, h3⟩ := F.io a h
  obtain ⟨a', h4, h5⟩ := F.mu 0 d0 h1 h3
  rw [h2] at h4
  cases h4
  exact ⟨d0, h3, h5⟩⟩
theorem st_ret (he : PE X e (tR C p .esc f)) : PS X (.Return (some e) pos) (tS C [] fun ε => (f ε).bind fun p => .ok (.rt p.1, p.2)) :=
  PS.imp (ps_ret he) fun D σ H ⟨N, G, ε, F, w⟩ => ⟨N, G, ε, F, (SQ.bind F w).imp fun d G1 H1 ε1 F1 g1 w1 v r => w1 G1 H1 v (F1.rt r)⟩
theorem st_retN : PS X (.Return none pos) (tS C [] fun ε => (Res.ok (D.non, ε)).bind fun p => .ok (.rt p.1, p.2)) :=
  PS.imp ps_retN fun D σ H ⟨N, G, ε, F, w⟩ => w G H .non (F.rt rfl)
/-- a changed slot's object is handed back: it is frozen -/
theorem st_rtf {i : Nat} {x : Str} {p' : Pos} (hN : X.N[i]? = some x) (hv : Vis X.env.scope x) (hc : C.cl i = .mu) (h0 : i ≠ 0) (hd : (x == ("__debug__" : Str)) = false) (hcd : (x == ("__classdict__" : Str)) = false) :
    PS X (.Return (some (.Name x p')) pos) (tS C [] fun ε => (getE ε i).bind fun d => .ok (.rt d, ε)) := by
  refine PS.imp (ps_ret (pe_var hN hv hd hcd)) fun D σ H ⟨N, G, ε, F, w⟩ => ?_
  dsimp only [getE] at w
  split at w
  · rename_i d he
    obtain ⟨a, h1, h2⟩ := F.mu i d hc he
    obtain ⟨o, ho, ht⟩ := h2.there
    have gn := h2.none
    have hn0 : N.H0 a = none := by
      rcases F.fre i a hc h1 with q | q
      · exact q
      · obtain ⟨c0, s0, _⟩ := F.io a q
        exact absurd (F.dis 0 i a (by rw [c0]; simp) hc s0 h1) (Ne.symm h0)
    refine ⟨.ref a, h1, w (upd G a o) H (.ref a) ⟨fun b u e => ?_, fun b ps e => ?_, ⟨F.go.ext.trans (Sub.new gn), fun b z => ?_, F.go.keep, F.go.tbl, F.go.tabg, F.go.dom⟩, h2.frozen ho gn, fun a' ha' => ?_⟩⟩
    · by_cases hb : b = a
      · rw [hb, upd_same] at e; rw [hb, ho]; exact e
      · rw [upd_ne hb] at e; exact F.sub b u e
    · by_cases hb : b = a
      · rw [hb, upd_same] at e; exact ht ps (Option.some.inj e)
      · rw [upd_ne hb] at e; exact F.ntb b ps e
    · by_cases hb : b = a
      · rw [hb]; exact .inr hn0
      · rw [upd_ne hb] at z; exact F.go.new b z
    · obtain ⟨c0, s0, d0, e0⟩ := F.io a' ha'
      obtain ⟨a2, s1, t1⟩ := F.mu 0 d0 c0 e0
      rw [s0] at s1
      cases s1
      refine ⟨d0, e0, t1.mono (Sub.new gn) ?_ fun _ z => z⟩
      rw [upd_ne (fun z => h0 (F.dis 0 i a (by rw [c0]; simp) hc (by rw [← z]; exact s0) h1).symm)]
      exact t1.none
  · exact w.elim
theorem st_ifs {sa sb : List Stmt} {a1 a2 : List Nat} {fa fb : Env → Res (Fl × Env)} (hc : PT X c (tT C p f)) (ha : PSs X sa (tS C a1 fa)) (hb : PSs X sb (tS C a2 fb)) :
    PS X (.If c sa sb pos) (tS C (a1 ++ a2) fun ε => (f ε).bind fun p => (truth p.1).bind fun t => if t = true then fa p.2 else fb p.2) := by
  refine PS.imp (ps_if hc ha hb) fun D σ H ⟨N, G, ε, F, w⟩ => ⟨N, G, ε, F, ?_⟩
  have w' : SQ C N σ G (a1 ++ a2) D (((f ε).bind fun q => (truth q.1).bind fun t => .ok (t, q.2)).bind fun q => if q.1 = true then fa q.2 else fb q.2) := by
    dsimp only at w
    revert w
    cases f ε with
    | no => exact fun w => w
    | er c x => exact fun w => w
    | ok q =>
      simp only [Res.bind_ok]
      cases truth q.1 <;> exact fun w => w
  refine (SQ.bind F w').imp fun t G1 H1 ε1 F1 g1 w1 => ?_
  cases t with
  | true => exact ⟨N, G1, ε1, F1, SQ.mv' (r := fa ε1) w1 (KeepS.refl _ _) (Sub.refl _) fun j z => List.mem_append_left _ z⟩
  | false => exact ⟨N, G1, ε1, F1, SQ.mv' (r := fb ε1) w1 (KeepS.refl _ _) (Sub.refl _) fun j z => List.mem_append_right _ z⟩
theorem SQ.bindB {α : Type} {p : Bool} {as : List Nat} {D : Ends} {G0 : Hp} {σ0 : L2.St} {r : Res (α × Env)} {k : α × Env → Res (Fl × Env)} (F : Fr C N G H ε σ) (h : SQ C N σ0 G0 as D (r.bind k)) : Post C N σ p G H r fun a G1 H1 ε1 => SQ C N σ0 G0 as D (k (a, ε1)) ∧ Sub G G1 := by
  cases r with
  | no => exact h
  | er c x => exact fun G' H' cls dd g e => h G' H' cls dd (F.out (g.weak fun b z => z.2)) e
  | ok q => exact fun G1 H1 F1 g1 => ⟨h, g1.ext⟩
/-- a loop's body -/
theorem loop_body {as a1 : List Nat} {D : Ends} {G0 : Hp} {σ0 : L2.St} {r : Res (Fl × Env)} {K : Env → Res (Fl × Env)} {Nx : L2.St → Hp → Prop}
    (w : SQ C N σ0 G0 as D (r.bind fun q => match q.1 with
      | .nx => K q.2
      | .ct => K q.2
      | .bk => .ok (.nx, q.2)
      | .rt d => .ok (.rt d, q.2))) (sub : Sub G0 G) (k : KeepS as σ0 σ) (hs : ∀ j ∈ a1, j ∈ as)
    (hN : ∀ ε' G' H' σ', Fr C N G' H' ε' σ' → Sub G0 G' → Sub G G' → KeepS as σ0 σ' → KeepS a1 σ σ' → SQ C N σ0 G0 as D (K ε') → Nx σ' H') : SQ C N σ G a1 { D with nx := Nx, ct := Nx, bk := D.nx } r := by
  cases r with
  | no => exact w
  | er c x => exact w
  | ok q =>
    obtain ⟨fl, ε'⟩ := q
    cases fl with
    | nx => exact fun G' H' σ' F' s k' => hN ε' G' H' σ' F' (sub.trans s) s (k.trans (k'.sub hs)) k' w
    | ct => exact fun G' H' σ' F' s k' => hN ε' G' H' σ' F' (sub.trans s) s (k.trans (k'.sub hs)) k' w
    | bk => exact fun G' H' σ' F' s k' => w G' H' σ' F' (sub.trans s) (k.trans (k'.sub hs))
    | rt d => exact fun G' H' v r => w G' H' v r
theorem st_whl {sb : List Stmt} {a1 : List Nat} {fb : Env → Res (Fl × Env)} {n : Nat} (hp : PassesOwn (model X.prog X.w) X.A X.env X.xe) (hc : PT X c (tT C p f)) (hb : PSs X sb (tS C a1 fb)) :
    PS X (.While c sb [] pos) (tS C a1 fun ε => whlL (fun ε => (f ε).bind fun p => (truth p.1).bind fun t => .ok (t, p.2)) fb n ε) := by
  refine PS.imp (ps_while hp hc hb) fun D σ H ⟨N, G, ε, F, w⟩ => ?_
  refine ⟨fun m σ' H' => ∃ G' ε', Fr C N G' H' ε' σ' ∧ Sub G G' ∧ KeepS a1 σ σ' ∧ SQ C N σ G a1 D (whlL (fun ε => (f ε).bind fun p => (truth p.1).bind fun t => .ok (t, p.2)) fb m ε'), ⟨n, G, ε, F, Sub.refl _, KeepS.refl _ _, w⟩, ?_⟩
  rintro m σ1 H1 ⟨G1, ε1, F1, s1, k1, w1⟩
  cases m with
  | zero => exact w1.elim
  | succ m =>
    unfold whlL at w1
    refine ⟨N, G1, ε1, F1, ?_⟩
    refine (SQ.bindB F1 w1).imp fun t G2 H2 ε2 F2 g2 ⟨w3, s2⟩ => ?_
    cases t with
    | false => exact w3 G2 H2 σ1 F2 (s1.trans s2) k1
    | true => exact ⟨fun σ' H' => ∃ G' ε', Fr C N G' H' ε' σ' ∧ Sub G G' ∧ KeepS a1 σ σ' ∧ SQ C N σ G a1 D (whlL (fun ε => (f ε).bind fun p => (truth p.1).bind fun t => .ok (t, p.2)) fb m ε'), fun σ' H' z => ⟨m, Nat.lt_succ_self _, z⟩, N, G2, ε2, F2,
        loop_body (K := whlL (fun ε => (f ε).bind fun p => (truth p.1).bind fun t => .ok (t, p.2)) fb m) w3 (s1.trans s2) k1 (fun _ z => z) fun ε' G' H' σ' F' s _ k _ z => ⟨G', ε', F', s, k, z⟩⟩
theorem keep_of {as : List Nat} {σ' : L2.St} {vs : List Nat} (h : ∀ j, j ∉ vs → σ'[j]? = σ[j]?) (hs : ∀ j ∈ vs, j ∈ as) : KeepS as σ σ' := fun j hj => h j fun z => hj (hs j z)
theorem st_for {tgE iter : Expr} {sb : List Stmt} {tg : Tg} {a1 : List Nat} {fi : Env → Res (List D × Env)} {fb : Env → Res (Fl × Env)} (hp : PassesOwn (model X.prog X.w) X.A X.env X.xe) (hc : X.calm = true) (hcl : ∀ i ∈ tg.slots, C.cl i = .pl) (hln : ∀ i ∈ tg.slots, i < C.N.length)
    (hi : PI X tgE iter (tI C p false tg fi)) (hg : PG X tgE (tTg C.K tg)) (hb : PSs X sb (tS C a1 fb)) (hs : ∀ x, foldedSetIterable iter X.env x = pure x) :
    PS X (.For tgE iter sb [] pos) (tS C (tg.slots ++ a1) fun ε => (fi ε).bind fun p => forL tg fb p.1 p.2) := by
  refine PS.imp (ps_for hp hc hi hg hb hs) fun D σ H ⟨N, G, ε, F, w⟩ => ⟨N, G, ε, F, ?_⟩
  refine (SQ.bindB F w).imp fun ds G1 H1 ε1 F1 g1 ⟨w1, s1⟩ J ij => ?_
  have h1 : ∀ j ∈ tg.slots, j ∈ tg.slots ++ a1 := fun j z => List.mem_append_left _ z
  have h2 : ∀ j ∈ a1, j ∈ tg.slots ++ a1 := fun j z => List.mem_append_right _ z
  refine ⟨fun i m σ' H' => ∃ G' ε', m = ds.length - i ∧ i ≤ ds.length ∧ Fr C N G' H' ε' σ' ∧ Sub G1 G' ∧ KeepS (tg.slots ++ a1) σ σ' ∧ SQ C N σ G (tg.slots ++ a1) D (forL tg fb (ds.drop i) ε'), ⟨ds.length, G1, ε1, rfl, Nat.zero_le _, F1, Sub.refl _, KeepS.refl _ _, w1⟩, ?_⟩
  rintro i m σ' H' ⟨G', ε', rfl, hi', F', sub, k, w2⟩
  have lt : Lt false G1 H1 G' H' := ⟨sub, F'.sub, fun z => by cases z⟩
  cases hdr : ds.drop i with
  | nil =>
    rw [hdr] at w2
    have hil : ds.length ≤ i := by
      have := congrArg List.length hdr
      simp at this
      omega
    exact .inl ⟨ij.stop i G' H' lt hil, w2 G' H' σ' F' (s1.trans sub) k⟩
  | cons x xs =>
    obtain ⟨hx, hx2, hlt⟩ := drop_at hdr
    rw [hdr] at w2
    unfold forL at w2
    obtain ⟨ε2, hb2, w3⟩ := w2.val (bindT_ne tg x ε')
    refine .inr ⟨ij.go i G' H' lt hlt, fun σ' H' => ∃ G' ε', Fr C N G' H' ε' σ' ∧ Sub G1 G' ∧ KeepS (tg.slots ++ a1) σ σ' ∧ SQ C N σ G (tg.slots ++ a1) D (forL tg fb (ds.drop (i + 1)) ε'), fun σ' H' ⟨G', ε', h⟩ => ⟨ds.length - (i + 1), by omega, G', ε', rfl, by omega, h⟩, fun v H2 hy => ?_⟩
    obtain ⟨G2, F2, g2, rx⟩ := ij.yld i x N G' H' v H2 _ _ hx lt F' hy
    refine bindT_ok F2 rx hb2 (fun j hj => ⟨hcl j hj, by rw [F2.ln]; exact hln j hj⟩) fun σ3 F3 l3 a3 => ⟨N, G2, ε2, F3, ?_⟩
    exact loop_body (K := forL tg fb xs) w3 (s1.trans (sub.trans g2.ext)) (k.trans (keep_of a3 h1)) h2 fun ε' G' H' σ' F' _ s k _ z => ⟨G', ε', F', (sub.trans g2.ext).trans s, k, by rw [hx2]; exact z⟩
/-- over a changed slot's list, as it is at each turn -/
theorem st_fox {tgE : Expr} {x : Str} {p' : Pos} {sb : List Stmt} {tg : Tg} {i : Nat} {a1 : List Nat} {fb : Env → Res (Fl × Env)} {n : Nat} (hp : PassesOwn (model X.prog X.w) X.A X.env X.xe) (hc : X.calm = true) (hcl : ∀ i ∈ tg.slots, C.cl i = .pl) (hln : ∀ i ∈ tg.slots, i < C.N.length)
    (hN : X.N[i]? = some x) (hv : Vis X.env.scope x) (hci : C.cl i ≠ .pl) (hia : i ∉ a1) (hd : (x == ("__debug__" : Str)) = false) (hcd : (x == ("__classdict__" : Str)) = false) (hg : PG X tgE (tTg C.K tg)) (hb : PSs X sb (tS C a1 fb)) :
    PS X (.For tgE (.Name x p') sb [] pos) (tS C (tg.slots ++ a1) fun ε => foxL tg i fb n 0 ε) := by
  have hit : i ∉ tg.slots := fun z => hci (hcl i z)
  refine PS.imp (ps_for hp hc (pi_list (pe_var hN hv hd hcd)) hg hb (by intro x; rfl)) fun D σ H ⟨N, G, ε, F, w⟩ => ?_
  have h1 : ∀ j ∈ tg.slots, j ∈ tg.slots ++ a1 := fun j z => List.mem_append_left _ z
  have h2 : ∀ j ∈ a1, j ∈ tg.slots ++ a1 := fun j z => List.mem_append_right _ z
  have hio : i ∉ tg.slots ++ a1 := fun z => (List.mem_append.mp z).elim hit hia
  have at_ : ∀ {G1 H1 : Hp} {ε1 : Env} {σ1 : L2.St} {ds : List Ev.D}, Fr C N G1 H1 ε1 σ1 → ε1[i]? = some (some (.lst ds)) → ∃ a xs, σ1[i]? = some (some (.ref a)) ∧ H1 a = some (.lst xs) ∧ RpL C.K C.fa G1 ds xs := fun {G1 H1 ε1 σ1 ds} F1 he => by
    cases hk : C.cl i with
    | pl => exact absurd hk hci
    | mu =>
      obtain ⟨a, h1, _, xs, h2, h3⟩ := F1.mu i _ hk he
      exact ⟨a, xs, h1, h2, h3⟩
    | bo =>
      obtain ⟨v, h1, a, xs, rfl, h2, h3⟩ := F1.bo i _ hk he
      exact ⟨a, xs, h1, h2, h3⟩
  have look : ∀ {m k : Nat} {ε1 : Env} {σ0 : L2.St} {G0 : Hp}, SQ C N σ0 G0 (tg.slots ++ a1) D (foxL tg i fb m k ε1) → ∃ m' ds, m = m' + 1 ∧ ε1[i]? = some (some (.lst ds)) ∧ SQ C N σ0 G0 (tg.slots ++ a1) D (match ds[k]? with
      | none => .ok (.nx, ε1)
      | some x => (bindT tg x ε1).bind fun ε1 => (fb ε1).bind fun q => match q.1 with
        | .nx => foxL tg i fb m' (k + 1) q.2
        | .ct => foxL tg i fb m' (k + 1) q.2
        | .bk => .ok (.nx, q.2)
        | .rt d => .ok (.rt d, q.2)) := fun {m k ε1 σ0 G0} w => by
    cases m with
    | zero => exact w.elim
    | succ m =>
      unfold foxL at w
      unfold getE at w
      split at w
      · rename_i d he
        simp only [Res.bind_ok] at w
        cases d with
        | lst ds => exact ⟨m, ds, rfl, he, w⟩
        | _ => exact w.elim
      · exact w.elim
  obtain ⟨m0, ds0, e0, he0, _⟩ := look w
  obtain ⟨a, xs0, hs0, hH0, _⟩ := at_ F he0
  refine ⟨.ref a, hs0, a, rfl, ⟨xs0, SqL.of hH0⟩, fun k m σ' H' => ∃ G' ε', Fr C N G' H' ε' σ' ∧ Sub G G' ∧ KeepS (tg.slots ++ a1) σ σ' ∧ SQ C N σ G (tg.slots ++ a1) D (foxL tg i fb m k ε'), ⟨n, G, ε, F, Sub.refl _, KeepS.refl _ _, w⟩, ?_⟩
  rintro k m σ' H' ⟨G', ε', F', sub, kp, w2⟩
  obtain ⟨m', ds, rfl, he, w3⟩ := look w2
  obtain ⟨a', xs, hs, hH, rl⟩ := at_ F' he
  have haa : a' = a := by
    rw [kp i hio, hs0] at hs
    cases hs
    rfl
  subst haa
  cases hk : ds[k]? with
  | none =>
    rw [hk] at w3
    have hl : ds.length ≤ k := List.getElem?_eq_none_iff.mp hk
    exact .inl ⟨⟨xs, SqL.of hH, by rw [← rl.len]; exact hl⟩, w3 G' H' σ' F' sub kp⟩
  | some x =>
    rw [hk] at w3
    obtain ⟨ε2, hb2, w4⟩ := SQ.val w3 (bindT_ne tg x ε')
    obtain ⟨v0, hv0, rv0⟩ := RpL.get rl hk
    refine .inr ⟨⟨xs, v0, SqL.of hH, hv0⟩, fun σ' H' => ∃ G' ε', Fr C N G' H' ε' σ' ∧ Sub G G' ∧ KeepS (tg.slots ++ a1) σ σ' ∧ SQ C N σ G (tg.slots ++ a1) D (foxL tg i fb m' (k + 1) ε'), fun σ' H' z => ⟨m', Nat.lt_succ_self _, z⟩, fun v H2 hy => ?_⟩
    obtain ⟨rfl, q⟩ := hy
    have hv := q xs (SqL.of hH)
    rw [hv0] at hv
    cases hv
    refine bindT_ok F' (.inl rv0) hb2 (fun j hj => ⟨hcl j hj, by rw [F'.ln]; exact hln j hj⟩) fun σ3 F3 l3 a3 => ⟨N, G', ε2, F3, ?_⟩
    exact loop_body (K := foxL tg i fb m' (k + 1)) w4 sub (kp.trans (keep_of a3 h1)) h2 fun ε' G' H' σ' F' s _ k _ z => ⟨G', ε', F', s, k, z⟩
end
end Ev
/-! ### assignments -/
namespace Ev
open PySem PySem.Spec PyProof.Rows L2
section
variable {C : Cn} {X : Cx} {N : En} {G H G' H' : Hp} {ε : Env} {σ : L2.St} {pos : Pos} {e a b c : Expr} {f g h : Env → Res (D × Env)} {p pa pb pc : Bool}
/-- name = value, by any rule that evaluates so -/
theorem st_asgR {st : Stmt} {te : TE} {i : Nat} (h : PS X st (tAsg te (gName i))) (hw : ∀ σ H Q, tR C p .esc f σ H Q → te σ H Q) (hc : C.cl i = .pl) (hl : i < C.N.length) : PS X st (tS C [i] fun ε => (f ε).bind fun p => .ok (.nx, p.2.set i (some p.1))) :=
  PS.imp h fun D σ H ⟨N, G, ε, F, w⟩ => hw _ _ _ ⟨N, G, ε, F, (SQ.bind F w).imp fun d G1 H1 ε1 F1 g1 w1 v rv => w1 G1 H1 _ (F1.set hc (by rw [F1.ln]; exact hl) rv) (Sub.refl _) (KeepS.set (by simp))⟩
theorem st_ownR {st : Stmt} {te : TE} {i : Nat} (h : PS X st (tAsg te (gName i))) (hw : ∀ σ H Q, tR C p .frx f σ H Q → te σ H Q) (hc : C.cl i = .mu) (h0 : i ≠ 0) (hl : i < C.N.length) : PS X st (tS C [i] fun ε => (f ε).bind fun p => if isC p.1 = true then .ok (.nx, p.2.set i (some p.1)) else .no) :=
  PS.imp h fun D σ H ⟨N, G, ε, F, w⟩ => hw _ _ _ ⟨N, G, ε, F, (SQ.bind F w).imp fun d G1 H1 ε1 F1 g1 w1 v rv => by
    dsimp only at w1
    split at w1
    · rename_i hk
      obtain ⟨p, rfl, hn, tm⟩ := rv.1 hk
      exact w1 G1 H1 _ (F1.setM hc h0 (by rw [F1.ln]; exact hl) tm (F.go.back hn) fun j c z => F.dm j p c z hn) (Sub.refl _) (KeepS.set (by simp))
    · exact w1.elim⟩
theorem st_asg {i : Nat} {x : Str} {p' : Pos} (hN : X.N.Nodup) (hi : X.N[i]? = some x) (hx : Loc X.env.scope x) (he : PE X e (tR C p .esc f)) (hs : swapsWith e (some (.Name x p')) pos.line X.env = pure false) (hf : X.fn x = true ∨ X.env.scope.names.lookup x = some .local) (hc : C.cl i = .pl) (hl : i < C.N.length) :
    PS X (.Assign [.Name x p'] e pos) (tS C [i] fun ε => (f ε).bind fun p => .ok (.nx, p.2.set i (some p.1))) := st_asgR (ps_set hN hi hx he hs hf) (fun _ _ _ w => w) hc hl
theorem st_own {i : Nat} {x : Str} {p' : Pos} (hN : X.N.Nodup) (hi : X.N[i]? = some x) (hx : Loc X.env.scope x) (he : PE X e (tR C p .frx f)) (hs : swapsWith e (some (.Name x p')) pos.line X.env = pure false) (hf : X.fn x = true ∨ X.env.scope.names.lookup x = some .local) (hc : C.cl i = .mu) (h0 : i ≠ 0) (hl : i < C.N.length) :
    PS X (.Assign [.Name x p'] e pos) (tS C [i] fun ε => (f ε).bind fun p => if isC p.1 = true then .ok (.nx, p.2.set i (some p.1)) else .no) := st_ownR (ps_set hN hi hx he hs hf) (fun _ _ _ w => w) hc h0 hl
/-- (a, b, ..) = value -/
theorem st_unp {tgE : Expr} {is : List Nat} (he : PE X e (tR C p .esc f)) (hg : PG X tgE (tTg C.K (.tp is))) (hs : swapsWithSole [tgE] e pos.line X.env = pure false) (hw : swappedStores [tgE] e X.env = pure none) (h1 : (assignEach [tgE] X.env).map (·.2) = [assign tgE X.env])
    (hcl : ∀ i ∈ is, C.cl i = .pl) (hln : ∀ i ∈ is, i < C.N.length) : PS X (.Assign [tgE] e pos) (tS C is fun ε => (f ε).bind fun p => (bindT (.tp is) p.1 p.2).bind fun ε1 => .ok (.nx, ε1)) :=
  PS.imp (ps_asg he hg hs hw h1) fun D σ H ⟨N, G, ε, F, w⟩ => ⟨N, G, ε, F, (SQ.bind F w).imp fun d G1 H1 ε1 F1 g1 w1 v rv => by
    obtain ⟨ε2, hb, w2⟩ := w1.val (bindT_ne (.tp is) d ε1)
    exact bindT_ok F1 (.inl rv) hb (fun j hj => ⟨hcl j hj, by rw [F1.ln]; exact hln j hj⟩) fun σ' F' hl' ha => w2 G1 H1 σ' F' (Sub.refl _) ha⟩

/-- .. of a list -/
theorem st_unl {tgE : Expr} {is : List Nat} (he : PE X e (tR C p .esc f)) (hg : PG X tgE (L2.gLst C.K is.length (gNs is))) (hs : swapsWithSole [tgE] e pos.line X.env = pure false) (hw : swappedStores [tgE] e X.env = pure none) (h1 : (assignEach [tgE] X.env).map (·.2) = [assign tgE X.env])
    (hcl : ∀ i ∈ is, C.cl i = .pl) (hln : ∀ i ∈ is, i < C.N.length) : PS X (.Assign [tgE] e pos) (tS C is fun ε => (f ε).bind fun p => (unlD p.1).bind fun ds => (bindL is ds p.2).bind fun ε1 => .ok (.nx, ε1)) :=
  PS.imp (ps_asg he hg hs hw h1) fun D σ H ⟨N, G, ε, F, w⟩ => ⟨N, G, ε, F, (SQ.bind F w).imp fun d G1 H1 ε1 F1 g1 w1 v rv => by
    cases d with
    | lst ds =>
      have w1 : SQ C N σ G1 is D ((bindL is ds ε1).bind fun ε1 => .ok (.nx, ε1)) := w1
      obtain ⟨ε2, hb, w2⟩ := SQ.val w1 (bindL_ne is ds ε1)
      obtain ⟨a, xs, rfl, k1, k2⟩ := rv
      exact ⟨a, xs, rfl, SqL.of (F1.sub _ _ k1), by rw [← k2.len]; exact bindL_len hb, bindL_ok F1 k2 hb (fun j hj => ⟨hcl j hj, by rw [F1.ln]; exact hln j hj⟩) fun σ' F' hl' ha => w2 G1 H1 σ' F' (Sub.refl _) ha⟩
    | _ => exact w1.elim⟩

/-! #### several at once -/
def Frsh (p : Addr) : List (Bool × Nat) → List D → List V → Prop
  | t :: ts, d :: ds, v :: vs => (t.1 = true → isC d = true → v ≠ .ref p) ∧ Frsh p ts ds vs
  | _, _, _ => True
def PRel (C : Cn) (G' H H' : Hp) : List (Bool × Nat) → List D → List V → Prop
  | [], ds, vs => ds = [] ∧ vs = []
  | t :: ts, ds, vs => ∃ d dr v vr, ds = d :: dr ∧ vs = v :: vr ∧ (t.1 = false → Rp C.K C.fa G' d v) ∧ (t.1 = true → isC d = true → ∃ p, v = .ref p ∧ H p = none ∧ TopM C.K C.fa G' H' d p ∧ Frsh p ts dr vr) ∧ PRel C G' H H' ts dr vr
theorem PRel.back {H1 : Hp} (hb : ∀ p, H1 p = none → H p = none) : ∀ {ts : List (Bool × Nat)} {ds : List D} {vs : List V}, PRel C G' H1 H' ts ds vs → PRel C G' H H' ts ds vs
  | [], _, _, h => h
  | _ :: _, _, _, ⟨d, dr, v, vr, e1, e2, h1, h2, h3⟩ => ⟨d, dr, v, vr, e1, e2, h1, fun a b => let ⟨p, k1, k2, k3⟩ := h2 a b; ⟨p, k1, hb p k2, k3⟩, PRel.back hb h3⟩
theorem PRel.frsh {p : Addr} (hp : H p ≠ none) : ∀ {ts : List (Bool × Nat)} {ds : List D} {vs : List V}, PRel C G' H H' ts ds vs → Frsh p ts ds vs
  | [], _, _, ⟨rfl, rfl⟩ => trivial
  | t :: ts, _, _, ⟨d, dr, v, vr, rfl, rfl, h1, h2, h3⟩ => ⟨fun a b z => by
    obtain ⟨q, k1, k2, _⟩ := h2 a b
    rw [z] at k1
    cases k1
    exact hp k2, PRel.frsh hp h3⟩
theorem PRel.keep {H2 : Hp} (k : ∀ b o, H' b = some o → H2 b = some o) : ∀ {ts : List (Bool × Nat)} {ds : List D} {vs : List V}, PRel C G' H H' ts ds vs → PRel C G' H H2 ts ds vs
  | [], _, _, h => h
  | _ :: _, _, _, ⟨d, dr, v, vr, e1, e2, h1, h2, h3⟩ => ⟨d, dr, v, vr, e1, e2, h1, fun a b => let ⟨p, k1, k2, k3, k4⟩ := h2 a b; ⟨p, k1, k2, k3.mono (Sub.refl _) k3.none (fun o => k p o), k4⟩, PRel.keep k h3⟩
theorem PRel.len : ∀ {ts : List (Bool × Nat)} {ds : List D} {vs : List V}, PRel C G' H H' ts ds vs → vs.length = ts.length ∧ ds.length = ts.length
  | [], _, _, ⟨rfl, rfl⟩ => ⟨rfl, rfl⟩
  | _ :: _, _, _, ⟨d, dr, v, vr, rfl, rfl, _, _, h3⟩ => by
    obtain ⟨k1, k2⟩ := PRel.len h3
    exact ⟨by rw [List.length_cons, List.length_cons, k1], by rw [List.length_cons, List.length_cons, k2]⟩
def tPL (C : Cn) (ts : List (Bool × Nat)) (p : Bool) (f : Env → Res (List D × Env)) : TA := fun σ H Q => ∃ N G ε, Fr C N G H ε σ ∧ Post C N σ p G H (f ε) fun ds G' H' _ => ∀ vs, PRel C G' H H' ts ds vs → Q vs H'
theorem tp_nil : PA X [] (tPL C [] true fun ε => .ok ([], ε)) := PA.imp pa_nil fun σ H Q ⟨N, G, ε, F, w⟩ => Post.here F w [] ⟨rfl, rfl⟩
theorem tp_cons {t : Bool × Nat} {ts : List (Bool × Nat)} {es : List Expr} {fl : Env → Res (List D × Env)} (ha : PE X a (tR C pa (if t.1 = true then .frx else .esc) f)) (hr : PA X es (tPL C ts pb fl)) (hs : starEach (a :: es) X.env = (false, eval a X.env) :: starEach es X.env) :
    PA X (a :: es) (tPL C (t :: ts) (pa && pb) fun ε => (f ε).bind fun p => (fl p.2).bind fun q => .ok (p.1 :: q.1, q.2)) := by
  refine PA.imp (pa_cons ha hr hs) fun σ H Q ⟨N, G, ε, F, w⟩ => ⟨N, G, ε, F, ?_⟩
  refine w.bind.imp fun d G1 H1 ε1 F1 g1 w1 v rv => ⟨N, G1, ε1, F1, ?_⟩
  have w1' : Post C N σ (pb && true) G1 H1 ((fl ε1).bind fun q => .ok (d :: q.1, q.2)) fun ds G' H' _ => ∀ vs, PRel C G' H H' (t :: ts) ds vs → Q vs H' := by rw [Bool.and_true]; exact w1
  refine w1'.bind.imp fun ds G2 H2 ε2 F2 g2 w2 vs rvs => ?_
  refine w2.here F2 (v :: vs) ⟨d, ds, v, vs, rfl, rfl, fun ht => ?_, fun ht hc => ?_, rvs.back fun p => g1.back⟩
  · rw [ht] at rv
    exact Rp.mono g2.ext rv
  · rw [ht] at rv
    obtain ⟨p, rfl, hn, tm⟩ := rv.1 hc
    obtain ⟨o, ho, hno⟩ := tm.there
    refine ⟨p, rfl, hn, tm.mono g2.ext ?_ fun o' ho' => ?_, rvs.frsh (by rw [ho]; simp)⟩
    · cases q : G2 p with
      | none => rfl
      | some u =>
        rcases g2.new p (by rw [q]; simp) with z | z
        · exact absurd tm.none z
        · rw [ho] at z; cases z
    · rw [ho] at ho'
      cases ho'
      exact g2.keep p o ho (fun z => by
        obtain ⟨i, ci, si⟩ := z.2
        exact F.dm i p (by rw [ci]; simp) si hn) hno
def setL : List (Bool × Nat) → List V → L2.St → L2.St
  | t :: ts, v :: vs, σ => setL ts vs (σ.set t.2 (some v))
  | _, _, σ => σ
theorem gNs_set {D : L2.St → Hp → Prop} : ∀ {ts : List (Bool × Nat)} {vs : List V} {σ : L2.St}, vs.length = ts.length → D (setL ts vs σ) H → gNs (ts.map (·.2)) vs σ H D
  | [], [], σ, _, h => ⟨rfl, h⟩
  | t :: ts, v :: vs, σ, hl, h => ⟨v, vs, rfl, gNs_set (by simpa using hl) h⟩
/-- the slots fit: changed ones get new containers -/
def PFit (C : Cn) (ts : List (Bool × Nat)) : Prop := ∀ t ∈ ts, t.2 < C.N.length ∧ (t.1 = false → C.cl t.2 = .pl) ∧ (t.1 = true → C.cl t.2 = .mu ∧ t.2 ≠ 0)
theorem par_ok {H0 : Hp} (h0 : ∀ p, H0 p = none → N.H0 p = none) : ∀ {ts : List (Bool × Nat)} {ds : List D} {vs : List V} {ε ε' : Env} {σ : L2.St}, Fr C N G H ε σ → PRel C G H0 H ts ds vs → PFit C ts → parL ts ds ε = .ok ε' →
    (∀ j, C.cl j ≠ .pl → ∀ p, σ[j]? = some (some (.ref p)) → Frsh p ts ds vs) → Fr C N G H ε' (setL ts vs σ) ∧ KeepS (ts.map (·.2)) σ (setL ts vs σ)
  | [], ds, vs, ε, ε', σ, F, r, ft, hp, hs => by
    obtain ⟨rfl, rfl⟩ := r
    cases hp
    exact ⟨F, fun _ _ => rfl⟩
  | t :: ts, ds, vs, ε, ε', σ, F, r, ft, hp, hs => by
    obtain ⟨d, dr, v, vr, rfl, rfl, r1, r2, r3⟩ := r
    obtain ⟨l1, c1, c2⟩ := ft t (by simp)
    have l1 : t.2 < σ.length := by rw [F.ln]; exact l1
    unfold parL at hp
    split at hp
    · rename_i hk
      have step : Fr C N G H (ε.set t.2 (some d)) (σ.set t.2 (some v)) ∧ (∀ j, C.cl j ≠ .pl → ∀ p, (σ.set t.2 (some v))[j]? = some (some (.ref p)) → Frsh p ts dr vr) := by
        cases ht : t.1 with
        | false =>
          refine ⟨F.set (c1 ht) l1 (r1 ht), fun j cj p e => ?_⟩
          have hj : t.2 ≠ j := fun z => cj (by rw [← z]; exact c1 ht)
          rw [List.getElem?_set_ne hj] at e
          exact (hs j cj p e).2
        | true =>
          rw [ht] at hk
          have hk : isC d = true := by simpa using hk
          obtain ⟨p, rfl, k1, k2, k3⟩ := r2 ht hk
          refine ⟨F.setM (c2 ht).1 (c2 ht).2 l1 k2 (h0 p k1) fun j cj z => (hs j cj p z).1 ht hk rfl, fun j cj q e => ?_⟩
          by_cases hj : t.2 = j
          · subst hj
            rw [List.getElem?_set_self l1] at e
            cases e
            exact k3
          · rw [List.getElem?_set_ne hj] at e
            exact (hs j cj q e).2
      obtain ⟨k1, k2⟩ := par_ok h0 step.1 r3 (fun u hu => ft u (List.mem_cons_of_mem _ hu)) hp step.2
      refine ⟨k1, fun j hj => ?_⟩
      rw [show setL (t :: ts) (v :: vr) σ = setL ts vr (σ.set t.2 (some v)) from rfl, k2 j (fun z => hj (by simp at z ⊢; exact .inr z)), List.getElem?_set_ne (fun z => hj (by simp [z]))]
    · cases hp
theorem parL_ne : ∀ (ts : List (Bool × Nat)) (ds : List D) (ε : Env) c x, parL ts ds ε ≠ .er c x
  | [], [], _, _, _ => by simp [parL]
  | [], _ :: _, _, _, _ => by simp [parL]
  | _ :: _, [], _, _, _ => by simp [parL]
  | t :: ts, d :: ds, ε, c, x => by
    unfold parL
    split
    · exact parL_ne ts ds _ c x
    · simp
theorem sizeOk_ok {ds dd : List D} (h : sizeOk ds = .ok dd) : dd = ds ∧ ds.length ≤ LIM := by
  unfold sizeOk at h
  split at h
  · cases h; exact ⟨rfl, by assumption⟩
  · cases h
theorem sizeOk_ne (ds : List D) (c : Nat) (x : D) : sizeOk ds ≠ .er c x := by unfold sizeOk; split <;> simp
/-- by any rule that hands the values to the stores -/
theorem st_parR {st : Stmt} {t : TS} {ts : List (Bool × Nat)} {fl : Env → Res (List D × Env)} (h : PS X st t) (ft : PFit C ts)
    (hw : ∀ D σ H, tPL C ts p fl σ H (fun vs H1 => vs.length = ts.length ∧ vs.length ≤ sizeLine ∧ D.nx (setL ts vs σ) H1 ∧ ∀ T, H1 T = none → D.nx (setL ts vs σ) (upd H1 T (.tup vs))) → t D σ H) :
    PS X st (tS C (ts.map (·.2)) fun ε => (fl ε).bind fun p => (sizeOk p.1).bind fun ds => (parL ts ds p.2).bind fun ε1 => .ok (.nx, ε1)) := by
  refine PS.imp h fun D σ H ⟨N, G, ε, F, w⟩ => hw _ _ _ ⟨N, G, ε, F, ?_⟩
  refine (SQ.bind F w).imp fun ds G1 H1 ε1 F1 g1 w1 vs rv => ?_
  obtain ⟨dd, hsz, w2⟩ := w1.val (sizeOk_ne ds)
  obtain ⟨rfl, hlim⟩ := sizeOk_ok hsz
  obtain ⟨ε2, hp, w3⟩ := w2.val (parL_ne ts dd ε1)
  obtain ⟨l1, l2⟩ := rv.len
  have h0 : ∀ p, H p = none → N.H0 p = none := fun p z => F.go.back z
  have hs : ∀ {H2 : Hp}, PRel C G1 H H2 ts dd vs → ∀ j, C.cl j ≠ .pl → ∀ p, σ[j]? = some (some (.ref p)) → Frsh p ts dd vs := fun r j c p e => PRel.frsh (F.dm j p c e) r
  refine ⟨l1, by have := lim_sz; have : dd.length ≤ LIM := hlim; omega, ?_, fun T hT => ?_⟩
  · obtain ⟨k1, k2⟩ := par_ok h0 F1 rv ft hp (hs rv)
    exact w3 G1 H1 _ k1 (Sub.refl _) k2
  · obtain ⟨F2, g2⟩ := F1.newH (o := .tup vs) hT
    have rv2 := rv.keep (H2 := upd H1 T (.tup vs)) fun b o e => by rw [upd_ne (ne_of_none e hT)]; exact e
    obtain ⟨k1, k2⟩ := par_ok h0 F2 rv2 ft hp (hs rv2)
    exact w3 G1 _ _ k1 (Sub.refl _) k2
/-- through a tuple -/
theorem st_parT {tgE : Expr} {es : List Expr} {k2 : Nat} {pt2 : Pos} {ts : List (Bool × Nat)} {fl : Env → Res (List D × Env)} (hK : X.K = C.K) (ha : PA X es (tPL C ts p fl)) (ft : PFit C ts) (hg : PG X tgE (tTg C.K (.tp (ts.map (·.2))))) (hs : swapsWithSole [tgE] (.Tuple es k2 pt2) pos.line X.env = pure false) (hw : swappedStores [tgE] (.Tuple es k2 pt2) X.env = pure none)
    (h1 : (assignEach [tgE] X.env).map (·.2) = [assign tgE X.env]) : PS X (.Assign [tgE] (.Tuple es k2 pt2) pos) (tS C (ts.map (·.2)) fun ε => (fl ε).bind fun p => (sizeOk p.1).bind fun ds => (parL ts ds p.2).bind fun ε1 => .ok (.nx, ε1)) := by
  refine st_parR (ps_asg (pe_tup ha) hg hs hw h1) ft fun D σ H ⟨N, G, ε, F, w⟩ => ⟨N, G, ε, F, w.imp fun ds G1 H1 ε1 F1 g1 q vs rv => ?_⟩
  obtain ⟨q1, q2, q3, q4⟩ := q vs rv
  exact ⟨q2, fun T hT => ⟨T, vs, rfl, SqT.of upd_same, by rw [q1, List.length_map], gNs_set (H := upd H1 T (.tup vs)) (D := D.nx) q1 (q4 T hT)⟩⟩
/-- two plain names -/
theorem st_par2 {o1 o2 : Bool} {i j : Nat} {x y : Str} {px py pt : Pos} {kt k2 : Nat} {pt2 : Pos} {fl : Env → Res (List D × Env)} (hc : X.calm = true) (hN : X.N.Nodup) (hi : X.N[i]? = some x) (hj : X.N[j]? = some y) (hij : i ≠ j)
    (hx : X.env.scope.names.lookup x = some .local) (hy : X.env.scope.names.lookup y = some .local) (ha : PA X [a, b] (tPL C [(o1, i), (o2, j)] p fl)) (ft : PFit C [(o1, i), (o2, j)])
    (hw : swappedStores [.Tuple [.Name x px, .Name y py] kt pt] (.Tuple [a, b] k2 pt2) X.env = pure (some [x, y])) (hs : swapsWithSole [.Tuple [.Name x px, .Name y py] kt pt] (.Tuple [a, b] k2 pt2) pos.line X.env = pure false) :
    PS X (.Assign [.Tuple [.Name x px, .Name y py] kt pt] (.Tuple [a, b] k2 pt2) pos) (tS C [i, j] fun ε => (fl ε).bind fun p => (sizeOk p.1).bind fun ds => (parL [(o1, i), (o2, j)] ds p.2).bind fun ε1 => .ok (.nx, ε1)) := by
  refine st_parR (ps_par hc hN hi hj hij hx hy ha hw hs) ft fun D σ H ⟨N, G, ε, F, w⟩ => ⟨N, G, ε, F, w.imp fun ds G1 H1 ε1 F1 g1 q vs rv => ?_⟩
  obtain ⟨q1, q2, q3, q4⟩ := q vs rv
  match vs, q1, q3 with
  | [v, w], _, q3 => exact ⟨v, w, rfl, q3⟩
theorem st_par3 {o1 o2 o3 : Bool} {i j l : Nat} {x y z : Str} {px py pz pt : Pos} {kt k2 : Nat} {pt2 : Pos} {fl : Env → Res (List D × Env)} (hc : X.calm = true) (hN : X.N.Nodup) (hi : X.N[i]? = some x) (hj : X.N[j]? = some y) (hl : X.N[l]? = some z) (hij : i ≠ j) (hil : i ≠ l) (hjl : j ≠ l)
    (hx : X.env.scope.names.lookup x = some .local) (hy : X.env.scope.names.lookup y = some .local) (hz : X.env.scope.names.lookup z = some .local) (ha : PA X [a, b, c] (tPL C [(o1, i), (o2, j), (o3, l)] p fl)) (ft : PFit C [(o1, i), (o2, j), (o3, l)])
    (hw : swappedStores [.Tuple [.Name x px, .Name y py, .Name z pz] kt pt] (.Tuple [a, b, c] k2 pt2) X.env = pure (some [x, y, z])) (hs : swapsWithSole [.Tuple [.Name x px, .Name y py, .Name z pz] kt pt] (.Tuple [a, b, c] k2 pt2) pos.line X.env = pure false) :
    PS X (.Assign [.Tuple [.Name x px, .Name y py, .Name z pz] kt pt] (.Tuple [a, b, c] k2 pt2) pos) (tS C [i, j, l] fun ε => (fl ε).bind fun p => (sizeOk p.1).bind fun ds => (parL [(o1, i), (o2, j), (o3, l)] ds p.2).bind fun ε1 => .ok (.nx, ε1)) := by
  refine st_parR (L2.ps_par3 hc hN hi hj hl hij hil hjl hx hy hz ha hw hs) ft fun D σ H ⟨N, G, ε, F, w⟩ => ⟨N, G, ε, F, w.imp fun ds G1 H1 ε1 F1 g1 q vs rv => ?_⟩
  obtain ⟨q1, q2, q3, q4⟩ := q vs rv
  match vs, q1, q3 with
  | [u, v, w], _, q3 => exact ⟨u, v, w, rfl, q3⟩

/-! #### a changed slot's list -/
theorem ixD_ixN (n : Nat) (i : Int) : ixD n i = ixN n i := rfl
theorem setD_ok {xs k d z : D} (h : setD xs k d = .ok z) : (∃ ds i j, xs = .lst ds ∧ k = .int i ∧ ixD ds.length i = some j ∧ z = .lst (ds.set j d)) ∨ (∃ kvs, xs = .dct kvs ∧ isKey k = true ∧ kvs.length < LIM ∧ z = .dct (putD k d kvs)) ∨
    (xs = .dct [] ∧ isKeyT k = true ∧ z = .dtt [(k, d)]) ∨ ∃ kvs, xs = .dtt kvs ∧ isKeyT k = true ∧ kvs.length < LIM ∧ z = .dtt (putD k d kvs) := by
  unfold setD at h
  split at h
  · split at h
    · rename_i j hj
      cases h
      exact .inl ⟨_, _, j, rfl, rfl, hj, rfl⟩
    · cases h
  · split at h
    · rename_i kvs hk
      rw [Bool.and_eq_true, decide_eq_true_eq] at hk
      cases h
      exact .inr (.inl ⟨kvs, rfl, hk.1, hk.2, rfl⟩)
    · split at h
      · rename_i kvs _ hk
        rw [Bool.and_eq_true, List.isEmpty_iff] at hk
        cases h
        exact .inr (.inr (.inl ⟨by rw [hk.1], hk.2, rfl⟩))
      · cases h
  · split at h
    · rename_i kvs hk
      rw [Bool.and_eq_true, decide_eq_true_eq] at hk
      cases h
      exact .inr (.inr (.inr ⟨kvs, rfl, hk.1, hk.2, rfl⟩))
    · cases h
  · cases h
theorem setD_ne (xs k d : D) (c : Nat) (x : D) : setD xs k d ≠ .er c x := by
  unfold setD
  split
  · split <;> simp
  · split
    · simp
    · split <;> simp
  · split <;> simp
  · simp
/-- a store into a list or a dict -/
def rSetA : V → V → V → Hp → (Hp → Prop) → Prop := fun o i v H Q => rSetL o i v H Q ∨ (∃ a H', o = .ref a ∧ DPut H a i v H' ∧ Q H') ∨ PT.rPutT o i v H Q
theorem set_A (hu : X.A.units + 1 < cLine) : PSet X rSetA := by
  intro pins s σ H o i v ov iv u Q I ro ri rv h
  rcases h with h | ⟨a, H', e, g, q⟩ | h
  rotate_left 2
  · exact PT.put_T hu pins s σ H o i v ov iv u Q I ro ri rv h
  · exact set_list pins s σ H o i v ov iv u Q I ro ri rv h
  · subst e
    obtain rfl : ov = Value.ref a := ro
    exact d_setItem hu I g ri rv fun s4 I4 => ⟨H', I4, q⟩
theorem getE_ok {i : Nat} {d : D} (h : getE ε i = .ok d) : ε[i]? = some (some d) := by
  unfold getE at h
  split at h
  · cases h; assumption
  · cases h
theorem getE_ne (ε : Env) (i : Nat) (c : Nat) (x : D) : getE ε i ≠ .er c x := by
  unfold getE
  split <;> simp
/-- xs[k] = d -/
theorem set_at (F : Fr C N G H ε σ) {i : Nat} {ad : Addr} {xs k d z : D} {kv v : V} {Q : Hp → Prop} (hc : C.cl i = .mu) (hs : σ[i]? = some (some (.ref ad))) (hx : ε[i]? = some (some xs)) (hz : setD xs k d = .ok z) (rk : Rp C.K C.fa G k kv) (rd : Rp C.K C.fa G d v)
    (q : ∀ H', Fr C N G H' (ε.set i (some z)) σ → Q H') : rSetA (.ref ad) kv v H Q := by
  rcases setD_ok hz with hd | ⟨kvs, rfl, hk, hl, rfl⟩ | ⟨rfl, hk, rfl⟩ | ⟨kvs, rfl, hk, hl, rfl⟩
  case inr.inr.inl =>
    obtain ⟨a', h1, gn, ks, h2, h3⟩ := F.mu i _ hc hx
    rw [hs] at h1
    cases h1
    obtain ⟨key, b, rfl, rfl, hb⟩ := keyT_V hk (Rp.top F.sub rk)
    obtain rfl : ks = [] := h3
    refine .inr (.inr ⟨ad, b, key, [], rfl, rfl, hb.mono F.sub, by rw [sizeLine_eq]; decide, .inl ⟨h2, rfl⟩, fun u ru => q _ (F.muts hc hs h2 Soft.dK ⟨gn, _, upd_same, ?_⟩)⟩)
    exact ⟨key, b, u, v, [], rfl, rfl, hb, ru, rd, rfl⟩
  case inr.inr.inr =>
    obtain ⟨a', h1, gn, xs, h2, h3⟩ := F.mu i _ hc hx
    rw [hs] at h1
    cases h1
    obtain ⟨key, b, rfl, rfl, hb⟩ := keyT_V hk (Rp.top F.sub rk)
    exact .inr (.inr ⟨ad, b, key, xs, rfl, rfl, hb.mono F.sub, by rw [← h3.len]; exact lim_lt hl, .inr ⟨h2, h3.keys.mono F.sub⟩, fun u ru => q _ (F.muts hc hs h2 Soft.dtt ⟨gn, _, upd_same, h3.putT hb ru rd⟩)⟩)
  case inr.inl =>
    obtain ⟨a', h1, gn, ks, h2, h3⟩ := F.mu i _ hc hx
    rw [hs] at h1
    cases h1
    obtain ⟨key, rfl, rfl⟩ := key_V hk (Rp.top F.sub rk)
    refine .inr (.inl ⟨ad, _, rfl, DPut.k h2 (by rw [← h3.len]; exact lim_lt hl), q _ (F.muts hc hs h2 Soft.dK ⟨gn, _, upd_same, RpK.put rd h3⟩)⟩)
  obtain ⟨ds, ii, j, rfl, rfl, hj, rfl⟩ := hd
  obtain ⟨a', h1, gn, vs, h2, h3⟩ := F.mu i _ hc hx
  rw [hs] at h1
  cases h1
  obtain rfl : kv = .int ii := rk
  refine .inl ⟨ad, vs, ii, j, rfl, rfl, h2, by rw [← h3.len]; exact hj, q _ (F.muts hc hs h2 Soft.lst ⟨gn, _, upd_same, h3.set j rd⟩)⟩
theorem st_sti {i : Nat} {x : Str} {p1 p2 : Pos} {ik ie : Expr} (hu : X.A.units + 1 < cLine) (hN : X.N[i]? = some x) (hv : Vis X.env.scope x) (hd : (x == ("__debug__" : Str)) = false) (hcd : (x == ("__classdict__" : Str)) = false) (hc : C.cl i = .mu) (he : PE X ie (tR C pa .esc f)) (hk : PE X ik (tR C pb .esc g))
    (ha : ∀ v, assign (.Subscript (.Name x p1) ik p2) X.env v = (do
      let ov ← holding [v] (eval (.Name x p1) X.env)
      let iv ← holding [v, ov] (eval ik X.env)
      standAt p2
      holding [v, ov, iv] (setItem ov iv v)
      release [v, ov, iv] [])) (hs : swapsWithSole [.Subscript (.Name x p1) ik p2] ie pos.line X.env = pure false) (hw : swappedStores [.Subscript (.Name x p1) ik p2] ie X.env = pure none) :
    PS X (.Assign [.Subscript (.Name x p1) ik p2] ie pos) (tS C [] fun ε => (f ε).bind fun p => (getE p.2 i).bind fun _ => (g p.2).bind fun q => (getE q.2 i).bind fun xs => (setD xs q.1 p.1).bind fun xs1 => .ok (.nx, q.2.set i (some xs1))) := by
  refine PS.imp (ps_asg he (pg_sub (pe_var hN hv hd hcd) hk (set_A hu) ha) hs hw rfl) fun D σ H ⟨N, G, ε, F, w⟩ => ⟨N, G, ε, F, ?_⟩
  refine (SQ.bind F w).imp fun d G1 H1 ε1 F1 g1 w1 v rv => ?_
  obtain ⟨d0, hd0, w2⟩ := w1.val (getE_ne ε1 i)
  obtain ⟨ad, hs, _⟩ := F1.mu i d0 hc (getE_ok hd0)
  refine ⟨.ref ad, hs, N, G1, ε1, F1, ?_⟩
  refine (SQ.bind F1 w2).imp fun k G2 H2 ε2 F2 g2 w3 kv rk => ?_
  obtain ⟨xs, hxs, w4⟩ := w3.val (getE_ne ε2 i)
  obtain ⟨z, hz, w5⟩ := w4.val (setD_ne xs k d)
  exact set_at F2 hc hs (getE_ok hxs) hz rk (Rp.mono g2.ext rv) fun H' F' => w5 G2 H' σ F' (Sub.refl _) (KeepS.refl _ _)
/-- x, y = z, e: z's list is given away -/
theorem st_mvp {i j l : Nat} {x y z : Str} {px py pz pt pt2 : Pos} {kt k2 : Nat} {ie : Expr} (hc : X.calm = true) (hN : X.N.Nodup) (hj : X.N[j]? = some x) (hl : X.N[l]? = some y) (hi : X.N[i]? = some z) (hjl : j ≠ l) (h0 : i ≠ 0)
    (hx : X.env.scope.names.lookup x = some .local) (hy : X.env.scope.names.lookup y = some .local) (hv : Vis X.env.scope z) (hd : (z == ("__debug__" : Str)) = false) (hcd : (z == ("__classdict__" : Str)) = false) (ci : C.cl i = .mu) (cj : C.cl j = .pl) (cl : C.cl l = .pl) (lj : j < C.N.length) (ll : l < C.N.length)
    (he : PE X ie (tR C pa .esc f)) (ne : nost ie = true) (hw : swappedStores [.Tuple [.Name x px, .Name y py] kt pt] (.Tuple [.Name z pz, ie] k2 pt2) X.env = pure (some [x, y])) (hs : swapsWithSole [.Tuple [.Name x px, .Name y py] kt pt] (.Tuple [.Name z pz, ie] k2 pt2) pos.line X.env = pure false) :
    PS X (.Assign [.Tuple [.Name x px, .Name y py] kt pt] (.Tuple [.Name z pz, ie] k2 pt2) pos) (tS C [j, l] fun ε => (getE ε i).bind fun _ => (f ε).bind fun p => (getE p.2 i).bind fun d => .ok (.nx, ((p.2.set i none).set j (some d)).set l (some p.1))) := by
  refine PS.imp (ps_par hc hN hj hl hjl hx hy (pa_cons (pe_var (pos := pz) hi hv hd hcd) (pa_cons he pa_nil (star_c (es := []) ne _))) hw hs) fun D σ H ⟨N, G, ε, F, w⟩ => ?_
  obtain ⟨d0, hd0, w1⟩ := SQ.val w (getE_ne ε i)
  obtain ⟨ad, hs', _⟩ := F.mu i d0 ci (getE_ok hd0)
  refine ⟨.ref ad, hs', N, G, ε, F, ?_⟩
  refine (SQ.bind F w1).imp fun d G1 H1 ε1 F1 g1 w2 v rv => ?_
  obtain ⟨d1, hd1, w3⟩ := w2.val (getE_ne ε1 i)
  obtain ⟨ad', s1, tm⟩ := F1.mu i d1 ci (getE_ok hd1)
  rw [hs'] at s1
  cases s1
  refine ⟨.ref ad, v, rfl, ?_⟩
  obtain ⟨o, ho, ht⟩ := tm.there
  have gn := tm.none
  have hn0 : N.H0 ad = none := by
    rcases F1.fre i ad ci hs' with q | q
    · exact q
    · obtain ⟨c0, s0, _⟩ := F1.io ad q
      exact absurd (F1.dis 0 i ad (by rw [c0]; simp) ci s0 hs') (Ne.symm h0)
  have Ff := (F1.drop h0).freeze ho gn ht hn0 fun m dm cm em z => by
    have e : i = m := F1.dis i m ad (by rw [ci]; simp) cm hs' z
    subst e
    rw [List.getElem?_set_self (by rw [F1.len]; exact (List.getElem?_eq_some_iff.mp hs').1)] at em
    cases em
  have F2 := Ff.set cj (by rw [F1.ln]; exact lj) (tm.frozen ho gn)
  have F3 := F2.set cl (by rw [List.length_set, F1.ln]; exact ll) (Rp.mono (Sub.new gn) rv)
  refine w3 _ H1 _ F3 (Sub.new gn) ?_
  exact (KeepS.set (as := [j, l]) (i := j) (by simp)).trans (KeepS.set (by simp))
theorem st_swp {i : Nat} {x : Str} {p1 p2 p3 p4 pt pt2 : Pos} {kt k2 : Nat} {ia ib ex ey : Expr} {hx' : Env → Res (D × Env)} {hy' : Env → Res (D × Env)} (hu : X.A.units + 1 < cLine) (hK : X.K = C.K) (hcm : X.calm = true) (hN : X.N[i]? = some x) (hv : Vis X.env.scope x) (hd : (x == ("__debug__" : Str)) = false) (hcd : (x == ("__classdict__" : Str)) = false) (hc : C.cl i = .mu)
    (hx : PE X ex (tR C pa .esc f)) (hy : PE X ey (tR C pb .esc g)) (nx : nost ex = true) (ny : nost ey = true) (hka : PE X ia (tR C pc .esc hx')) (hkb : PE X ib (tR C p .esc hy'))
    (ha : ∀ v, assign (.Subscript (.Name x p1) ia p2) X.env v = (do
      let ov ← holding [v] (eval (.Name x p1) X.env)
      let iv ← holding [v, ov] (eval ia X.env)
      standAt p2
      holding [v, ov, iv] (setItem ov iv v)
      release [v, ov, iv] []))
    (hb : ∀ v, assign (.Subscript (.Name x p3) ib p4) X.env v = (do
      let ov ← holding [v] (eval (.Name x p3) X.env)
      let iv ← holding [v, ov] (eval ib X.env)
      standAt p4
      holding [v, ov, iv] (setItem ov iv v)
      release [v, ov, iv] []))
    (hs : swapsWithSole [.Tuple [.Subscript (.Name x p1) ia p2, .Subscript (.Name x p3) ib p4] kt pt] (.Tuple [ex, ey] k2 pt2) pos.line X.env = pure false) (hw : swappedStores [.Tuple [.Subscript (.Name x p1) ia p2, .Subscript (.Name x p3) ib p4] kt pt] (.Tuple [ex, ey] k2 pt2) X.env = pure none) :
    PS X (.Assign [.Tuple [.Subscript (.Name x p1) ia p2, .Subscript (.Name x p3) ib p4] kt pt] (.Tuple [ex, ey] k2 pt2) pos) (tS C [] fun ε => (f ε).bind fun p => (g p.2).bind fun q => (getE q.2 i).bind fun _ => (hx' q.2).bind fun r => (getE r.2 i).bind fun xs => (setD xs r.1 p.1).bind fun xs1 =>
      (hy' (r.2.set i (some xs1))).bind fun s => (getE s.2 i).bind fun xs2 => (setD xs2 s.1 q.1).bind fun xs3 => .ok (.nx, s.2.set i (some xs3))) := by
  have var := pe_var (X := X) (pos := p1) hN hv hd hcd
  have var3 := pe_var (X := X) (pos := p3) hN hv hd hcd
  refine PS.imp (ps_asg (pe_tup (pa_cons hx (pa_cons hy pa_nil (star_c ny _)) (star_c nx _))) (pg_tup hcm (pgs_cons (pg_sub var hka (set_A hu) ha) (pgs_cons (pg_sub var3 hkb (set_A hu) hb) pgs_nil)) (n := 2)) hs hw rfl) fun D σ H ⟨N, G, ε, F, w⟩ => ⟨N, G, ε, F, ?_⟩
  refine (SQ.bind F w).imp fun dx G1 H1 ε1 F1 g1 w1 vx rx => ⟨N, G1, ε1, F1, ?_⟩
  refine (SQ.bind F1 w1).imp fun dy G2 H2 ε2 F2 g2 w2 vy ry => ?_
  refine ⟨by show 2 ≤ sizeLine; decide, fun T hT => ⟨T, [vx, vy], rfl, SqT.of upd_same, rfl, vx, [vy], rfl, ?_⟩⟩
  obtain ⟨F3, g3⟩ := F2.newH (o := .tup [vx, vy]) hT
  obtain ⟨d0, hd0, w3⟩ := w2.val (getE_ne ε2 i)
  obtain ⟨ad, hs, _⟩ := F3.mu i d0 hc (getE_ok hd0)
  refine ⟨.ref ad, hs, N, G2, ε2, F3, ?_⟩
  refine (SQ.bind F3 w3).imp fun k G4 H4 ε4 F4 g4 w4 kv rk => ?_
  obtain ⟨xs, hxs, w5⟩ := w4.val (getE_ne ε4 i)
  obtain ⟨z, hz, w6⟩ := w5.val (setD_ne xs k dx)
  refine set_at F4 hc hs (getE_ok hxs) hz rk (Rp.mono g4.ext (Rp.mono g2.ext rx)) fun H5 F5 => ?_
  refine ⟨vy, [], rfl, .ref ad, hs, N, G4, _, F5, ?_⟩
  refine (SQ.bind F5 w6).imp fun k' G6 H6 ε6 F6 g6 w7 kv' rk' => ?_
  obtain ⟨xs2, hxs2, w8⟩ := w7.val (getE_ne ε6 i)
  obtain ⟨z2, hz2, w9⟩ := w8.val (setD_ne xs2 k' dy)
  exact set_at F6 hc hs (getE_ok hxs2) hz2 rk' (Rp.mono g6.ext (Rp.mono g4.ext ry)) fun H7 F7 => ⟨rfl, w9 G6 H7 σ F7 (Sub.refl _) (KeepS.refl _ _)⟩
/-! #### a list's method -/
def Mt.nm : Mt → Str
  | .ind => "index" | .cnt => "count"
theorem mthD_ne (k : Mt) (a b : D) (c : Nat) (x : D) : mthD k a b ≠ .er c x := by
  unfold mthD
  split
  · rename_i ds k
    cases hl : intsD ds with
    | no => simp [Res.bind]
    | er c x => exact absurd hl (ints_ne _ _ _)
    | ok l => simp only [Res.bind_ok]; split <;> simp
  · split
    · split <;> simp
    · simp
  · split <;> simp
  · simp
theorem mth_tup {k : Mt} {ds : List D} {e z : D} (h : mthD k (.tup ds) e = .ok z) : ∃ (kk : Int) (l : List Int), k = .ind ∧ e = .int kk ∧ intsD ds = .ok l ∧ kk ∈ l ∧ z = .int (l.idxOf kk : Nat) := by
  unfold mthD at h
  split at h
  · rename_i _ _ _ ds' kk e1
    cases e1
    cases hl : intsD ds with
    | no => rw [hl] at h; cases h
    | er c x => exact absurd hl (ints_ne _ _ _)
    | ok l =>
      rw [hl] at h
      simp only [Res.bind_ok] at h
      split at h
      · rename_i hm
        cases h
        exact ⟨kk, l, rfl, rfl, rfl, hm, rfl⟩
      · cases h
  · rename_i e1
    cases e1
  · rename_i e1
    cases e1
  · cases h
theorem find_V {K : PySem.W.Frag} {fa : Nat → Option Addr} (sub : Sub G H) {d : D} {y : V} (ha : atom d = true) (h : Top K fa G H d y) : ∀ {ds : List D} {vs : List V} {j : Nat}, RpL K fa G ds vs → ds.all atom = true → (ds.findIdx? fun z => eqv z d) = some j →
    ∃ z, vs[j]? = some z ∧ eqV z y = true ∧ ∀ (m : Nat) (z' : V), m < j → vs[m]? = some z' → eqV z' y = false
  | [], _, _, _, _, hf => by cases hf
  | e :: ds, _, j, ⟨u, r, e1, k1, k2⟩, hat, hf => by
    subst e1
    rw [List.all_cons, Bool.and_eq_true] at hat
    obtain ⟨_, n2⟩ := atom_V hat.1 (Rp.top sub k1)
    have e0 := n2 d y ha h
    rw [List.findIdx?_cons] at hf
    by_cases c : eqv e d = true
    · rw [if_pos c] at hf
      cases hf
      exact ⟨u, rfl, by rw [e0, c], fun m z' hm => absurd hm (Nat.not_lt_zero _)⟩
    · rw [if_neg c] at hf
      obtain ⟨j', hj, rfl⟩ := Option.map_eq_some_iff.mp hf
      obtain ⟨z, z1, z2, z3⟩ := find_V sub ha h k2 hat.2 hj
      refine ⟨z, z1, z2, fun m z' hm hz => ?_⟩
      cases m with
      | zero =>
        cases hz
        rw [e0]
        exact Bool.eq_false_iff.mpr c
      | succ m => exact z3 m z' (by omega) hz
theorem count_V {K : PySem.W.Frag} {fa : Nat → Option Addr} (sub : Sub G H) {d : D} {y : V} (ha : atom d = true) (h : Top K fa G H d y) : ∀ {ds : List D} {vs : List V}, RpL K fa G ds vs → ds.all atom = true → (vs.countP fun z => eqV z y) = ds.countP fun z => eqv z d
  | [], vs, k, _ => by rw [show vs = [] from k]; rfl
  | e :: ds, _, ⟨u, r, e1, k1, k2⟩, hat => by
    subst e1
    rw [List.all_cons, Bool.and_eq_true] at hat
    obtain ⟨_, n2⟩ := atom_V hat.1 (Rp.top sub k1)
    rw [List.countP_cons, List.countP_cons, count_V sub ha h k2 hat.2, n2 d y ha h]
def rMth (K : PySem.W.Frag) : Mt → V → List V → Hp → VK → Prop
  | .ind => rIndex K
  | .cnt => PT.rCntF K
def rMthT (K : PySem.W.Frag) : Mt → V → List V → Hp → VK → Prop
  | .ind => PT.rIdxT K
  | .cnt => fun _ _ _ _ => False
theorem ok_mth {k : Mt} {ds : List D} {d z : D} {a : Addr} {xs : List V} {y : V} {Q : VK} (F : Fr C N G H ε σ) (hx : RpL C.K C.fa G ds xs) (ha : H a = some (.lst xs)) (hy : Top C.K C.fa G H d y) (h : mthD k (.lst ds) d = .ok z) (q : ∀ v, Rp C.K C.fa G z v → Q v H) : rMth C.K k (.ref a) [y] H Q := by
  cases k with
  | ind =>
    simp only [mthD] at h
    split at h
    · rename_i hc
      rw [Bool.and_eq_true] at hc
      split at h
      · rename_i j hj
        cases h
        obtain ⟨z, z1, z2, z3⟩ := find_V F.sub hc.1 hy hx hc.2 hj
        exact ⟨a, xs, y, j, z, rfl, rfl, SqL.of ha, (atom_V hc.1 hy).1, (any_mem F.sub hc.1 hy hx hc.2).2, z1, z2, z3, q _ rfl⟩
      · cases h
    · cases h
  | cnt =>
    simp only [mthD] at h
    split at h
    · rename_i hc
      rw [Bool.and_eq_true] at hc
      cases h
      refine ⟨a, xs, y, rfl, rfl, SqL.of ha, (atom_V hc.1 hy).1, (any_mem F.sub hc.1 hy hx hc.2).2, ?_⟩
      rw [count_V F.sub hc.1 hy hx hc.2]
      exact q _ rfl
    · cases h
theorem pe_mth {o e : Expr} {k : Mt} {apos cpos : Pos} {m : Mo} (hm : m ≠ .frx) (hk : pb = true ∨ m = .esc) (hK : X.K = C.K) (ho : PE X o (tR C pa m f)) (he : PE X e (tR C pb .esc g)) (ne : nost e = true) (hbase : ∀ k : Mt, attributeBase o k.nm X.env (eval o X.env) = eval o X.env) (hline : (apos.endLine == cpos.line) = true) :
    PE X (.Call (.Attribute o k.nm apos) [e] [] cpos) (tR C (pa && pb) .esc fun ε => (f ε).bind fun p => match p.1 with
      | .lst ds => (g p.2).bind fun q => (mthD k (.lst ds) q.1).bind fun d => .ok (d, q.2)
      | .tup ds => (g p.2).bind fun q => (mthD k (.tup ds) q.1).bind fun d => .ok (d, q.2)
      | _ => .no) := by
  have hst := star_c (es := []) ne X.env
  have key : PE X (.Call (.Attribute o k.nm apos) [e] [] cpos) (tBM X.K "list" (rMth X.K k) (tR C pa m f) (tCons (tR C pb .esc g) tNil)) := by
    cases k with
    | ind => exact pe_bm F.plainAttrs_list F.slot_list_index F.type_list_index mt_index ho (pa_cons he pa_nil hst) (hbase .ind) (by rw [hst]; rfl) hline hst (by rfl)
    | cnt => exact pe_bm F.plainAttrs_list F.slot_list_count F.type_list_count PT.mt_cntF ho (pa_cons he pa_nil hst) (hbase .cnt) (by rw [hst]; rfl) hline hst (by rfl)
  have keyT : PE X (.Call (.Attribute o k.nm apos) [e] [] cpos) (PT.tBMT (rMthT X.K k) (tR C pa m f) (tCons (tR C pb .esc g) tNil)) := by
    cases k with
    | ind => exact PT.pe_bmT F.slot_tuple_index F.type_tuple_index PT.mt_idxT ho (pa_cons he pa_nil hst) (hbase .ind) (by rw [hst]; rfl) hline hst (by rfl)
    | cnt => exact PT.pe_bmT F.slot_tuple_count F.type_tuple_count (fun _ _ _ _ _ _ _ _ _ _ _ _ z => z.elim) ho (pa_cons he pa_nil hst) (hbase .cnt) (by rw [hst]; rfl) hline hst (by rfl)
  refine ⟨fun pins s σ H Q I ⟨N, G, ε, F, w⟩ => ?_⟩
  by_cases hT : ∃ ds ε', f ε = .ok (.tup ds, ε')
  · obtain ⟨ds, ε', hf⟩ := hT
    refine keyT.run pins s σ H Q I ⟨N, G, ε, F, ?_⟩
    have w0 := w.bind
    rw [hf] at w0 ⊢
    intro G1 H1 F1 g1 v rv
    have w1 := w0 G1 H1 F1 g1
    have tp := top_keep (C := C) hm (.inl rfl) F1 (Go.refl _ (Mx C σ true) _ _) rv
    obtain ⟨a, xs, rfl, h1, h2⟩ := tp
    refine ⟨⟨a, xs, rfl, h1.mono F1.sub⟩, N, G1, ε', F1, ?_⟩
    have w1' : Post C N σ (pb && true) G1 H1 ((g ε').bind fun q => (mthD k (.tup ds) q.1).bind fun z => .ok (z, q.2)) fun d G' H' _ => ∀ v, RM C .esc G' H H' d v → Q v H' := by rw [Bool.and_true]; exact w1
    refine w1'.bind.imp fun e G2 H2 ε2 F2 g2 w2 u ru => ?_
    obtain ⟨z, hz, w3⟩ := w2.val (mthD_ne k (.tup ds) e)
    rw [hK]
    obtain ⟨kk, l, rfl, e1, hl, hm2, rfl⟩ := mth_tup hz
    have e1 : e = .int kk := e1
    subst e1
    have e2 := ints_inv hl
    subst e2
    have e3 := h2.int
    subst e3
    obtain rfl := ru
    exact ⟨a, l, kk, rfl, rfl, ((h1.mono g2.ext).mono F2.sub).sq, hm2, w3 G2 H2 F2 (Go.refl _ _ _ _) _ rfl⟩
  refine key.run pins s σ H Q I ⟨N, G, ε, F, ?_⟩
  have w0 := w.bind
  revert w0
  cases hf : f ε with
  | no => exact fun w0 => w0
  | er c x => exact fun w0 => w0
  | ok q =>
  intro w0 G1 H1 F1 g1 v rv
  obtain ⟨d, ε1⟩ := q
  have w1 := w0 G1 H1 F1 g1
  have tp := top_keep (C := C) hm (.inl rfl) F1 (Go.refl _ (Mx C σ true) _ _) rv
  cases d with
  | tup ds => exact absurd ⟨ds, ε1, hf⟩ hT
  | lst ds =>
    obtain ⟨a, xs, rfl, h1, h2⟩ := tp
    refine ⟨.inl ⟨rfl, xs, SqL.of h1⟩, N, G1, ε1, F1, ?_⟩
    have w1' : Post C N σ (pb && true) G1 H1 ((g ε1).bind fun q => (mthD k (.lst ds) q.1).bind fun z => .ok (z, q.2)) fun d G' H' _ => ∀ v, RM C .esc G' H H' d v → Q v H' := by rw [Bool.and_true]; exact w1
    refine w1'.bind.imp fun e G2 H2 ε2 F2 g2 w2 u ru => ?_
    obtain ⟨z, hz, w3⟩ := w2.val (mthD_ne k (.lst ds) e)
    obtain ⟨a', xs', e1, h3, h4⟩ := top_keep hm hk F2 g2 rv
    cases e1
    rw [hK]
    exact ok_mth F2 h4 h3 (Rp.top F2.sub ru) hz fun v rv => w3 G2 H2 F2 (Go.refl _ _ _ _) v rv
  | _ => exact w1.elim
theorem st_app {i : Nat} {x : Str} {p1 apos cpos : Pos} {ie : Expr} (hN : X.N[i]? = some x) (hv : Vis X.env.scope x) (hd : (x == ("__debug__" : Str)) = false) (hcd : (x == ("__classdict__" : Str)) = false) (hc : C.cl i = .mu) (hK : X.K = C.K) (he : PE X ie (tR C pa .esc f)) (ne : nost ie = true) (hline : (apos.endLine == cpos.line) = true) :
    PS X (.Expr (.Call (.Attribute (.Name x p1) "append" apos) [ie] [] cpos) pos) (tS C [] fun ε => (getE ε i).bind fun d0 => match d0 with
      | .lst _ => (f ε).bind fun p => (getE p.2 i).bind fun xs => match xs with
        | .lst ds => if ds.length < LIM then .ok (.nx, p.2.set i (some (.lst (ds ++ [p.1])))) else .no
        | _ => .no
      | _ => .no) := by
  have hst := star_c (es := []) ne X.env
  refine PS.imp (ps_expr (pe_bm F.plainAttrs_list F.slot_list_append F.type_list_append mt_append (pe_var hN hv hd hcd) (pa_cons he pa_nil hst) (by rfl) (by rw [hst]; rfl) hline hst (by rfl)) rfl) fun D σ H ⟨N, G, ε, F, w⟩ => ?_
  obtain ⟨d0, hd0, w1⟩ := SQ.val w (getE_ne ε i)
  cases d0 with
  | lst ds0 =>
    obtain ⟨ad, hs, _, xs0, hH0, _⟩ := F.mu i _ hc (getE_ok hd0)
    refine ⟨.ref ad, hs, .inl ⟨rfl, xs0, SqL.of hH0⟩, N, G, ε, F, ?_⟩
    refine (SQ.bind F w1).imp fun d G1 H1 ε1 F1 g1 w2 v rv => ?_
    obtain ⟨xs, hxs, w3⟩ := w2.val (getE_ne ε1 i)
    cases xs with
    | lst ds =>
      dsimp only at w3
      split at w3
      · rename_i hlt
        obtain ⟨a', s1, gn, vs, h2, h3⟩ := F1.mu i _ hc (getE_ok hxs)
        rw [hs] at s1
        cases s1
        refine ⟨ad, vs, v, rfl, rfl, h2, by rw [← h3.len]; have := lim_sz; omega, ?_⟩
        exact w3 G1 _ σ (F1.muts hc hs h2 Soft.lst ⟨gn, _, upd_same, h3.snoc rv⟩) (Sub.refl _) (KeepS.refl _ _)
      · exact w3.elim
    | _ => exact w3.elim
  | _ => exact w1.elim
end
end Ev
/-! ### the context of a translation; expressions, arm by arm -/
namespace Ev
open PySem PySem.Spec PyProof.Rows L2
structure TC where
  N : List Str
  cl : List Cls
  gs : List (Str × GV)
  fs : List FI
  lam : Bool
/-- a datum that an exception carries -/
inductive Imm : D → V → Prop where
  | non : Imm .non .non
  | int (i : Int) : Imm (.int i) (.int i)
/-- a class of exceptions: without own __init__, or with one that stores its argument as f -/
def ExOk (C : Cn) (x : Str) (n : Nat) : Option Str → Prop
  | none => ∃ c, C.mg x = some (.ref c) ∧ PySem.W.keepIn C.K (.ref c) = true ∧ PySem.W.excIn C.K c He.veBase "ValueError.__new__" = true ∧ PySem.W.subIn C.K (.ref c) (.type "BaseException") = some true ∧ PySem.W.typeIn C.K (.ref c) = some (.type "type") ∧ ∀ H, C.exr n .non (.ref c) none H
  | some f => ∃ c fI fd ps, C.mg x = some (.ref c) ∧ OexC C.K c ∧ PySem.W.findIn C.K (.ref c) "__init__" = some (some (.ref fI)) ∧ PySem.W.typeIn C.K (.ref fI) = some (.type "function") ∧
    FnOk C.prog C.w C.K C.mg C.base C8.CX0 1 fI fd ps (PT.spIni c f) ∧ Binds C.K fd ps [] ∧ ∀ H d y v, Imm y v → H d = some (.xd [(f, v)]) → C.exr n y (.ref c) (some d) H
/-- what is told of an exception of class n with the datum y -/
def Said (ws : List (Str × Bool)) (n : Nat) (y : D) (Q : VK) (H : Hp) : Prop := match ws[n]? with
  | none => False
  | some (s, false) => Q (.str s) H
  | some (s, true) => ∃ v, Imm y v ∧ PT.NewT H [.str s, v] Q
def TTold (C : Cn) (val : Bool) (ws : List (Str × Bool)) : (XK → Hp → VK → Prop) → Hp → VK → Prop := fun tl H Q =>
  tl (fun cls dd H' => ∃ n y, C.exr n y cls dd H' ∧ ∀ H2 : Hp, (∀ b o, H' b = some o → H2 b = some o) → Said ws n y Q H2) H fun v H' => Q (if val = true then v else .non) H'
/-- the def that tells -/
def TldOk (C : Cn) (x : Str) (val : Bool) (ws : List (Str × Bool)) : Prop := ∃ (a : Str) (g : Addr) (pg : Arguments) (bg : List Stmt) (sg : Scope) (dV kV doc pm cdv ct oc : Value) (an od : Option Addr) (osl : Array (Option Value)) (Ng : List Str),
  C.mg x = some (.ref g) ∧ PySem.W.keepIn C.K (.ref g) = true ∧ C.K.lookup g = some ⟨oc, od, .func (PySem.W.fnOf x x pg bg sg dV kV doc pm an cdv ct), osl⟩ ∧ PySem.W.codeIn C.K cdv x = true ∧ Binds C.K (PySem.W.fnOf x x pg bg sg dV kV doc pm an cdv ct) [a] [] ∧
  FnScope Ng [a] sg ∧ Ng[0]? = some a ∧ Vis sg a ∧ (a == ("__debug__" : Str)) = false ∧ (a == ("__classdict__" : Str)) = false ∧
  ∀ (X : Cx) (q : Str), X.prog = C.prog → X.w = C.w → X.K = C.K → X.mg = C.mg → X.base = C.base → LamX.GivesTo X Ng x sg g cdv bg a q (TTold C val ws)
theorem Fr.withW {C : Cn} {N : En} {G H : Hp} {ε : Env} {σ : L2.St} (W : XK) (F : Fr C N G H ε σ) : Fr { C with W := W } N G H ε σ := ⟨F.sub, F.ntb, F.tab, F.len, F.ln, F.pl, F.mu, F.bo, F.boc, F.dis, F.dm, F.go, F.fre, F.io⟩
theorem Fr.offW {C : Cn} {N : En} {G H : Hp} {ε : Env} {σ : L2.St} {W : XK} (F : Fr { C with W := W } N G H ε σ) : Fr C N G H ε σ := ⟨F.sub, F.ntb, F.tab, F.len, F.ln, F.pl, F.mu, F.bo, F.boc, F.dis, F.dm, F.go, F.fre, F.io⟩
def TC.c (T : TC) (i : Nat) : Cls := T.cl.getD i .pl
structure COk (T : TC) (C : Cn) : Prop where
  N : C.N = T.N
  cl : C.cl = T.c
  nd : T.N.Nodup
  blt : ∀ x, T.gs.lookup x = some .blt → C.mg x = none
  con : ∀ x d, T.gs.lookup x = some (.con d) → ∃ u v, C.mg x = some u ∧ RelV v u ∧ ∀ G, Rp C.K C.fa G d v
  fn : ∀ x n I, T.gs.lookup x = some (.fn n) → T.fs[n]? = some I → ∃ f fd ps, FnOk C.prog C.w C.K C.mg C.base C.cx C.lev f fd ps (spF C I (C.call n)) ∧ C.mg x = some (.ref f) ∧ PySem.W.keepIn C.K (.ref f) = true ∧ Binds C.K fd ps []
  fst : ∀ x n I, T.gs.lookup x = some (.fn n) → T.fs[n]? = some I → I.fst = true → ∃ f, C.mg x = some (.ref f) ∧ PT.FstD C.K f
  fct : ∀ x, T.gs.lookup x = some .fct → C.mg x = some (.builtin "math.factorial")
  cx : C.cx = L2.CX C.prog C.w
  tbu : ∀ p ∈ C.tabs, ∀ p' ∈ C.tabs, p.1 = p'.1 → p.2 = p'.2
  exc : ∀ x n f, T.gs.lookup x = some (.exc n f) → ExOk C x n f
  tld : ∀ x val ws, T.gs.lookup x = some (.tld val ws) → TldOk C x val ws
  imm : ∀ n y cls dd H, C.exr n y cls dd H → ∃ v, Imm y v
  lv : 2 ≤ C.lev
theorem COk.cx0 {T : TC} {C : Cn} (h : COk T C) : ∀ st H s e s', C.cx st H s (fun _ _ _ => False) e s' → False := fun st H s e s' z => by
  rw [h.cx] at z
  obtain ⟨_, _, _, _, _, _, _, _, _, _, _, _, z⟩ := z
  exact z
theorem COk.withW {T : TC} {C : Cn} (h : COk T C) (W : XK) : COk T { C with W := W } := ⟨h.N, h.cl, h.nd, h.blt, h.con, h.fn, h.fst, h.fct, h.cx, h.tbu, fun x n f e => (by
  have q := h.exc x n f e
  cases f <;> exact q), h.tld, h.imm, h.lv⟩
theorem COk.cut {T : TC} {C : Cn} (h : COk T C) : COk T C.cut := h.withW _
structure XOk (T : TC) (C : Cn) (sc : Scope) (gen : Bool) (X : Cx) : Prop where
  prog : X.prog = C.prog
  w : X.w = C.w
  K : X.K = C.K
  mg : X.mg = C.mg
  base : X.base = C.base
  N : X.N = T.N
  calm : X.calm = true
  sc : X.env.scope = sc
  room : Room (C.lev + (if gen = true then 2 else 0)) X.A
  code : gen = true → ∃ cA P, X.env.code = .ref cA ∧ (P, if T.lam = true then some (X.env.qual ++ "<lambda>") else none) ∈ C.tabs ∧ GxR.TabB X.base X.mg cA P
  pass : Passes C.cx X C.W
/-- a comprehension's scope within sc -/
def relS (scope sc : Scope) : Scope := { scope with names := scope.names.map fun (n, k) => if (k == .free && sc.kind == .function && sc.names.lookup n == some .cell) then (n, .cell) else (n, k) }
section
variable {T : TC} {C : Cn} {X : Cx} {sc scope : Scope} {gen : Bool}
theorem XOk.blk (h : XOk T C sc gen X) (c : COk T C) (s : Shared) (H : Hp) (cA : Addr) (cl : List (Str × Addr)) (fp : List Addr) : XOk T C.cut (relS scope sc) gen (X.blk s H scope (compEnvC scope cl cA X.env) fp) where
  prog := h.prog
  w := h.w
  K := h.K
  mg := h.mg
  base := h.base
  N := h.N
  calm := h.calm
  sc := by rw [← h.sc]; rfl
  room := h.room
  code := h.code
  pass := fun pins σ H s e s' I z => c.cx0 _ _ _ _ _ z
theorem XOk.gb (h : XOk T C sc true X) (c : COk T C) (A' : Around) (s : Shared) (H : Hp) (a : Addr) (code : Value) (fp : List Addr) (pn : List (Addr × Obj)) (hr : Room C.lev A') :
    XOk T C.cut scope false (Gx.gblk X A' s H (genEnv scope (cloFrom X.env.cells scope.names []) a code builtinsNs X.env) fp pn) where
  prog := h.prog
  w := h.w
  K := h.K
  mg := h.mg
  base := h.base
  N := h.N
  calm := h.calm
  sc := rfl
  room := hr
  code := fun z => by cases z
  pass := fun pins σ H s e s' I z => c.cx0 _ _ _ _ _ z
structure SndE (C : Cn) (X : Cx) (e : Expr) (t : E) : Prop where
  esc : PE X e (tR C t.pur .esc (ev C.call t .esc))
  bor : PE X e (tR C t.pur .bor (ev C.call t .bor))
  frx : t.isF = true → PE X e (tR C t.pur .frx (ev C.call t .esc))
  tst : PT X e (tT C t.pur (ev C.call t .bor))
  nos : nost e = true
theorem own_ev (call : Nat → List D → Res (D × D)) : ∀ (e : E), e.own = true → ∀ ε, ev call e .bor ε = ev call e .esc ε
  | .v _, _, _ | .c _, _, _ | .stk, _, _ | .un _ _, _, _ | .bin _ _ _, _, _ | .cmp _ _ _, _, _ | .chn _ _ _ _ _, _, _ | .tup _, _, _ | .lst _, _, _ | .idx _ _, _, _ | .sli _ _ _, _, _ | .rev _, _, _ | .call _ _ _, _, _ | .pri _ _, _, _ | .isi _ _, _, _ | .mth _ _ _, _, _
  | .lc _ _ _ _, _, _ | .gen _ _ _ _ _, _, _ | .dc _ _ _ _ _, _, _ | .tld _ _ _, _, _ => by simp only [ev]
  | .m _, h, _ => by cases h
  | .and a b, h, ε => by
    have h : (a.own && b.own) = true := h
    rw [Bool.and_eq_true] at h
    simp only [ev, own_ev call a h.1, own_ev call b h.2]
  | .or a b, h, ε => by
    have h : (a.own && b.own) = true := h
    rw [Bool.and_eq_true] at h
    simp only [ev, own_ev call a h.1, own_ev call b h.2]
  | .ife c a b, h, ε => by
    have h : (a.own && b.own) = true := h
    rw [Bool.and_eq_true] at h
    simp only [ev, own_ev call a h.1, own_ev call b h.2]
variable {a b c e : Expr} {ta tb tc : E} {pos : Pos} {f : Env → Res (D × Env)}
/-- an operand ahead of another -/
theorem SndE.left (h : SndE C X a ta) {p : Bool} (hk : (p || ta.own) = true) : ∃ m : Mo, m ≠ .frx ∧ (p = true ∨ m = .esc) ∧ PE X a (tR C ta.pur m (ev C.call ta .bor)) := by
  cases hp : p with
  | true => exact ⟨.bor, by simp, .inl rfl, h.bor⟩
  | false =>
    rw [hp] at hk
    have ho : ta.own = true := by simpa using hk
    refine ⟨.esc, by simp, .inr rfl, ?_⟩
    have e : ev C.call ta .bor = ev C.call ta .esc := funext fun ε => own_ev C.call ta ho ε
    rw [e]
    exact h.esc
abbrev TrueShape (X : Cx) (e : Expr) : Prop := ∀ whole, isTrue e X.env whole = (do let v ← whole; standAt e.pos; holding [v] (truthy v))
/-- from a value -/
theorem snd_esc {t : E} (hK : X.K = C.K) (h : PE X e (tR C t.pur .esc (ev C.call t .esc))) (h1 : ev C.call t .bor = ev C.call t .esc) (hf : t.isF = false) (he : TrueShape X e) (hn : nost e = true) : SndE C X e t := by
  have hb : PE X e (tR C t.pur .bor (ev C.call t .bor)) := by rw [h1]; exact bor_of_esc h
  exact ⟨h, hb, (fun z => by rw [hf] at z; cases z), pt_of (m := .bor) (by simp) hb he hK, hn⟩
theorem snd_frx {t : E} (hK : X.K = C.K) (h : PE X e (tR C t.pur .frx (ev C.call t .esc))) (h1 : ev C.call t .bor = ev C.call t .esc) (he : TrueShape X e) (hn : nost e = true) : SndE C X e t := by
  have hs := esc_of_frx h
  have hb : PE X e (tR C t.pur .bor (ev C.call t .bor)) := by rw [h1]; exact bor_of_esc hs
  exact ⟨hs, hb, fun _ => h, pt_of (m := .bor) (by simp) hb he hK, hn⟩
/-! #### names, constants -/
def visC (sc : Scope) (x : Str) : Bool := decide (sc.names.lookup x = some .local) || decide (sc.names.lookup x = some .cell) || decide (sc.names.lookup x = some .free)
theorem vis_of {x : Str} (h : visC sc x = true) : Vis sc x := by
  unfold visC at h
  simp only [Bool.or_eq_true, decide_eq_true_eq] at h
  rcases h with (h | h) | h
  · exact .inl h
  · exact .inr (.inl h)
  · exact .inr (.inr h)
def dunC (x : Str) : Bool := !(x == ("__debug__" : Str)) && !(x == ("__classdict__" : Str))
theorem dun_of {x : Str} (h : dunC x = true) : (x == ("__debug__" : Str)) = false ∧ (x == ("__classdict__" : Str)) = false := by
  unfold dunC at h
  simpa using h
theorem snd_v {i : Nat} {x : Str} (k : COk T C) (h : XOk T C sc gen X) (hi : T.N[i]? = some x) (hv : visC sc x = true) (hd : dunC x = true) (hc : T.c i = .pl) : SndE C X (.Name x pos) (.v i) := by
  obtain ⟨d1, d2⟩ := dun_of hd
  exact snd_esc h.K (pe_v (by rw [h.N]; exact hi) (by rw [h.sc]; exact vis_of hv) (by rw [k.cl]; exact hc) d1 d2) rfl rfl (fun _ => rfl) rfl
theorem snd_m {i : Nat} {x : Str} (k : COk T C) (h : XOk T C sc gen X) (hi : T.N[i]? = some x) (hv : visC sc x = true) (hd : dunC x = true) (hc : T.c i ≠ .pl) : SndE C X (.Name x pos) (.m i) := by
  obtain ⟨d1, d2⟩ := dun_of hd
  have hb : PE X (.Name x pos) (tR C (E.m i).pur .bor (ev C.call (.m i) .bor)) := pe_m (by rw [h.N]; exact hi) (by rw [h.sc]; exact vis_of hv) (by rw [k.cl]; exact hc) d1 d2
  exact ⟨pe_no, hb, (fun z => by cases z), pt_of (m := .bor) (by simp) hb (fun _ => rfl) h.K, rfl⟩
def glC (sc : Scope) (x : Str) : Bool := decide (sc.names.lookup x = some .globalImplicit)
theorem gl_of (h : XOk T C sc gen X) {x : Str} (g : glC sc x = true) : Gl X x := by
  have g := of_decide_eq_true g
  show X.env.scope.names.lookup x = _
  rw [h.sc]
  exact g
theorem snd_g {x : Str} {d : D} (k : COk T C) (h : XOk T C sc gen X) (hg : glC sc x = true) (hx : T.gs.lookup x = some (.con d)) (hd : dunC x = true) : SndE C X (.Name x pos) (.c d) := by
  obtain ⟨u, v, h1, h2, h3⟩ := k.con x d hx
  exact snd_esc h.K (pe_k (pe_glob (gl_of h hg) (by rw [h.mg]; exact h1) h2 (dun_of hd).1) h3) rfl rfl (fun _ => rfl) rfl
def constD : Const → Option D
  | .none => some .non
  | .bool b => some (.bl b)
  | .int i => some (.int i)
  | .str x => if PyData.strOk x then some (.str x) else none
  | _ => none
theorem snd_k {x : Const} {j : Nat} {d : D} (h : XOk T C sc gen X) (hx : constD x = some d) : SndE C X (.Constant x j pos) (.c d) := by
  have q : ∃ v, PE X (.Constant x j pos) (tC v) ∧ ∀ G, Rp C.K C.fa G d v := by
    cases x with
    | none => cases hx; exact ⟨_, pe_non, fun _ => rfl⟩
    | bool b => cases hx; exact ⟨_, pe_bl, fun _ => rfl⟩
    | int i => cases hx; exact ⟨_, pe_int, fun _ => rfl⟩
    | str y =>
      have hx : (if PyData.strOk y = true then some (D.str y) else none) = some d := hx
      by_cases hs : PyData.strOk y = true
      · rw [if_pos hs] at hx
        cases hx
        exact ⟨_, pe_str, fun _ => ⟨rfl, hs⟩⟩
      · rw [if_neg hs] at hx
        cases hx
    | _ => cases hx
  obtain ⟨v, h1, h2⟩ := q
  exact snd_esc h.K (pe_k h1 h2) rfl rfl (fun _ => rfl) rfl
/-! #### operators -/
def boR : Operator → Option BO
  | .Add => some .add | .Sub => some .sub | .Mult => some .mul | .FloorDiv => some .fdv | .Mod => some .mod | .Pow => some .pow
  | _ => none
theorem boR_ok {o : Operator} {q : BO} (hK : X.K = C.K) (h : boR o = some q) : ∃ r : R2, OpR X (binaryOp o) r ∧ OpOk C .frx r (bop q) := by
  cases o <;> cases h
  · exact ⟨_, op_addA, by rw [hK]; exact ok_add⟩
  · exact ⟨_, op_sub, ok_sub⟩
  · exact ⟨_, op_mulA, by rw [hK]; exact ok_mul⟩
  · exact ⟨_, op_mod, ok_mod⟩
  · exact ⟨_, op_pow, ok_pow⟩
  · exact ⟨_, op_fdiv, ok_fdv⟩
def coR : CmpOp → CO
  | .Eq => .eq | .NotEq => .ne | .Lt => .lt | .LtE => .le | .Gt => .gt | .GtE => .ge | .Is => .is | .IsNot => .isnot | .In => .inn | .NotIn => .notin
theorem coR_ok (o : CmpOp) (hK : X.K = C.K) {k : Nat} (hr : Room k X.A) : ∃ r : R2, OpR X (compareOp o) r ∧ OpOk C .esc r (cop (coR o)) := by
  have u1 : X.A.units + 64 < cLine := hr.units
  have u2 : X.A.units + 65 < cLine := by have := hr.un; omega
  cases o
  · exact ⟨_, op_eqA u1, by rw [hK]; exact ok_eq⟩
  · exact ⟨_, op_neA u1, by rw [hK]; exact ok_ne⟩
  · exact ⟨_, op_lt, ok_lt⟩
  · exact ⟨_, op_le, ok_le⟩
  · exact ⟨_, op_gt, ok_gt⟩
  · exact ⟨_, op_ge, ok_ge⟩
  · exact ⟨_, op_isA, ok_is⟩
  · exact ⟨_, op_notA, ok_isnot⟩
  · exact ⟨_, op_inA u2, by rw [hK]; exact ok_in⟩
  · exact ⟨_, op_notInA u2, by rw [hK]; exact ok_notin⟩
def noSet : Expr → Bool
  | .Set .. => false
  | _ => true
theorem mark_of {b : Expr} (h : noSet b = true) (o : CmpOp) : behindInMarks o b = false := by
  cases b <;> first | rfl | cases h
theorem snd_bin {o : Operator} {q : BO} (h : XOk T C sc gen X) (ho : boR o = some q) (ha : SndE C X a ta) (hb : SndE C X b tb) (hk : (tb.pur || ta.own) = true) : SndE C X (.BinOp a o b pos) (.bin q ta tb) := by
  obtain ⟨r, h1, h2⟩ := boR_ok (X := X) (C := C) h.K ho
  obtain ⟨m, m1, m2, hl⟩ := ha.left hk
  exact snd_frx (t := .bin q ta tb) h.K (pe_bin2 m1 m2 h1 h2 (bop_ne q) hl hb.bor) rfl (fun _ => rfl) rfl
theorem snd_cmp {o : CmpOp} (h : XOk T C sc gen X) (ha : SndE C X a ta) (hb : SndE C X b tb) (hk : (tb.pur || ta.own) = true) (hs : noSet b = true) : SndE C X (.Compare a [o] [b] pos) (.cmp (coR o) ta tb) := by
  obtain ⟨r, h1, h2⟩ := coR_ok (X := X) (C := C) o h.K h.room
  obtain ⟨m, m1, m2, hl⟩ := ha.left hk
  have k := pe_cmp2 (pos := pos) m1 m2 h1 h2 (cop_ne (coR o)) (mark_of hs o) hl hb.bor
  exact ⟨k, bor_of_esc k, (fun z => by cases z), pt_cmp2 m1 m2 h1 h2 (cop_ne (coR o)) (cop_bl (coR o)) (mark_of hs o) hl hb.bor, rfl⟩
def chnF (o o' : CO) (f g h : Env → Res (D × Env)) (ε : Env) : Res (D × Env) := (f ε).bind fun p => (g p.2).bind fun q => (cop o p.1 q.1).bind fun d => match d with
  | .bl true => (h q.2).bind fun r => (cop o' q.1 r.1).bind fun d => .ok (d, r.2)
  | .bl false => .ok (.bl false, q.2)
  | _ => .no
theorem tr_chn {o o' : CO} {r r' : R2} {pa pb pc : Bool} {f g h : Env → Res (D × Env)} (h1 : OpOk C .esc r (cop o)) (h2 : OpOk C .esc r' (cop o')) {σ : L2.St} {H : Hp} {Q : VK} (w : tR C (pa && (pb && pc)) .esc (chnF o o' f g h) σ H Q) :
    tChain r r' (tR C pa .esc f) (tR C pb .esc g) (tR C pc .bor h) σ H Q := by
  obtain ⟨N, G, ε, F, w⟩ := w
  refine ⟨N, G, ε, F, ?_⟩
  unfold chnF at w
  refine w.bind.imp fun d G1 H1 ε1 F1 g1 w1 v rv => ⟨N, G1, ε1, F1, ?_⟩
  refine w1.bind.imp fun e G2 H2 ε2 F2 g2 w2 u ru => ?_
  obtain ⟨z, hz, w3⟩ := w2.val (cop_ne o d e)
  obtain ⟨t, rfl⟩ := cop_bl o _ _ _ hz
  refine h1 N G2 H2 ε2 σ d e _ v u _ F2 (Rp.top F2.sub (Rp.mono g2.ext rv)) (Rp.top F2.sub ru) hz fun G3 H3 v3 F3 g3 r3 => ⟨t, r3, ?_⟩
  have tt : ∀ {M : Addr → Prop} {G H G' H' : Hp}, Go C.tabs M G H G' H' → Go C.tabs (fun _ => True) G H G' H' := fun g => g.weak fun _ _ => True.intro
  cases t with
  | false => exact w3 G3 H3 F3 (g3.weak fun _ z => z.elim) _ rfl
  | true =>
    simp only [if_true]
    refine ⟨N, G3, ε2, F3, ?_⟩
    have w3' : Post C N σ (pc && true) G2 H2 ((h ε2).bind fun r => (cop o' e r.1).bind fun d => .ok (d, r.2)) fun d G' H' _ => ∀ v, RM C .esc G' H H' d v → Q v H' := by rw [Bool.and_true]; exact w3
    have w4 : Post C N σ (pc && true) G3 H3 ((h ε2).bind fun r => (cop o' e r.1).bind fun d => .ok (d, r.2)) fun d G' H' _ => ∀ v, RM C .esc G' H H' d v → Q v H' := by
      revert w3'
      generalize ((h ε2).bind fun r => (cop o' e r.1).bind fun d => .ok (d, r.2)) = rr
      cases rr with
      | no => exact fun w => w
      | er c x => exact fun w G' H' cls dd g e => w G' H' cls dd ((g3.weak fun _ z => z.elim).trans g) e
      | ok q => exact fun w G' H' F g => w G' H' F ((g3.weak fun _ z => z.elim).trans g)
    refine w4.bind.imp fun d5 G5 H5 ε5 F5 g5 w5 v5 r5 => ?_
    obtain ⟨z, hz, w6⟩ := w5.val (cop_ne o' e d5)
    exact h2 N G5 H5 ε5 σ e d5 z u v5 Q F5 (Rp.top F5.sub (Rp.mono (g3.ext.trans g5.ext) ru)) r5 hz fun G' H' v' F' g' r' => w6 G' H' F' (g'.weak fun _ z => z.elim) v' r'
theorem last_of {b c : Expr} {o o' : CmpOp} (h : noSet c = true) : lastMarks [o, o'] [b, c] = false := mark_of h o'
theorem snd_chn {o o' : CmpOp} (h : XOk T C sc gen X) (ha : SndE C X a ta) (hb : SndE C X b tb) (hc : SndE C X c tc) (hs : noSet c = true) : SndE C X (.Compare a [o, o'] [b, c] pos) (.chn (coR o) (coR o') ta tb tc) := by
  obtain ⟨r, h1, h2⟩ := coR_ok (X := X) (C := C) o h.K h.room
  obtain ⟨r', h3, h4⟩ := coR_ok (X := X) (C := C) o' h.K h.room
  have k : PE X (.Compare a [o, o'] [b, c] pos) (tR C (ta.pur && (tb.pur && tc.pur)) .esc (chnF (coR o) (coR o') (ev C.call ta .esc) (ev C.call tb .esc) (ev C.call tc .bor))) :=
    PE.imp (pe_chain h1 h3 ha.esc hb.esc hc.bor (last_of hs)) fun σ H Q w => tr_chn h2 h4 w
  refine ⟨k, bor_of_esc k, (fun z => by cases z), ?_, rfl⟩
  refine PT.imp (pt_chain h1 h3 ha.esc hb.esc hc.bor (last_of hs)) fun σ H Q ⟨N, G, ε, F, w⟩ => ?_
  refine tr_chn h2 h4 (Q := fun x H' => ∃ k, x = .bl k ∧ Q k H') ⟨N, G, ε, F, ?_⟩
  have key : ∀ q, chnF (coR o) (coR o') (ev C.call ta .esc) (ev C.call tb .esc) (ev C.call tc .bor) ε = .ok q → ∃ t, q.1 = .bl t := fun q hq => by
    unfold chnF at hq
    obtain ⟨p1, _, hq⟩ := bind_inv hq
    obtain ⟨p2, _, hq⟩ := bind_inv hq
    obtain ⟨z, hz, hq⟩ := bind_inv hq
    obtain ⟨t, rfl⟩ := cop_bl _ _ _ _ hz
    cases t with
    | false => cases hq; exact ⟨_, rfl⟩
    | true =>
      obtain ⟨p3, _, hq⟩ := bind_inv hq
      obtain ⟨z', hz', hq⟩ := bind_inv hq
      obtain ⟨t', rfl⟩ := cop_bl _ _ _ _ hz'
      cases hq
      exact ⟨_, rfl⟩
  have w : Post C N σ (ta.pur && (tb.pur && tc.pur)) G H ((chnF (coR o) (coR o') (ev C.call ta .esc) (ev C.call tb .esc) (ev C.call tc .bor) ε).bind fun q => (truth q.1).bind fun t => .ok (t, q.2)) fun b _ H' _ => Q b H' := w
  revert w
  cases hq : chnF (coR o) (coR o') (ev C.call ta .esc) (ev C.call tb .esc) (ev C.call tc .bor) ε with
  | no => exact fun w => w
  | er c x => exact fun w => w
  | ok q =>
    obtain ⟨t, ht⟩ := key q hq
    obtain ⟨d, ε'⟩ := q
    have ht : d = .bl t := ht
    subst ht
    exact fun w G' H' F' g' v rv => ⟨t, rv, w G' H' F' g'⟩
theorem snd_not (h : XOk T C sc gen X) (ha : SndE C X a ta) : SndE C X (.UnaryOp .Not a pos) (.un .not ta) := by
  have k : PE X (.UnaryOp .Not a pos) (tR C ta.pur .esc fun ε => (ev C.call ta .bor ε).bind fun p => (uop .not p.1).bind fun d => .ok (d, p.2)) := pe_nt (m := .bor) (by simp) h.K ha.bor
  exact ⟨k, bor_of_esc k, (fun z => by cases z), pt_nt ha.tst, rfl⟩
theorem uop_ne (o : UO) (d : D) (c : Nat) (x : D) : uop o d ≠ .er c x := by
  cases o with
  | neg => cases d <;> simp [uop]
  | not =>
    unfold uop
    exact bind_ne (truth_ne d) (fun b c x => by simp) c x
theorem snd_neg (h : XOk T C sc gen X) (ha : SndE C X a ta) : SndE C X (.UnaryOp .USub a pos) (.un .neg ta) := by
  refine snd_esc (t := .un .neg ta) h.K (pe_un1 (m := .bor) (op := uop .neg) (by simp) un_neg (fun N G H ε σ d z x Q F r e q => ?_) (fun d c x => uop_ne .neg d c x) ha.bor) rfl rfl (fun _ => rfl) rfl
  cases d with
  | int i =>
    obtain rfl : x = .int i := r
    cases e
    exact ⟨i, rfl, q G H _ F (Go.refl _ _ _ _) rfl⟩
  | _ => cases e
/-! #### and, or, if -/
/-- the items of an and, an or -/
def boE (and : Bool) : List E → E
  | [] => .c .non
  | [t] => t
  | t :: r => if and = true then .and t (boE and r) else .or t (boE and r)
inductive AllE (C : Cn) (X : Cx) : List Expr → List E → Prop where
  | one {e t} : SndE C X e t → AllE C X [e] [t]
  | cons {e t es ts} : SndE C X e t → AllE C X es ts → AllE C X (e :: es) (t :: ts)
theorem snd_and {es : List Expr} {ts : List E} (h : XOk T C sc gen X) (k : AllE C X es ts) : PE X (.BoolOp .And es pos) (tR C (boE true ts).pur .esc (ev C.call (boE true ts) .esc)) ∧ PE X (.BoolOp .And es pos) (tR C (boE true ts).pur .bor (ev C.call (boE true ts) .bor)) ∧ PW X (.BoolOp .And es pos) (tT C (boE true ts).pur (ev C.call (boE true ts) .bor)) := by
  induction k with
  | one k => exact ⟨pe_one k.esc, pe_one k.bor, pw_and1 k.tst⟩
  | @cons e t es ts k r ih =>
    obtain ⟨i1, i2, i3⟩ := ih
    cases r with
    | one k2 => exact ⟨pe_and2 (m := .esc) (by simp) h.K k.esc i1, pe_and2 (m := .bor) (by simp) h.K k.bor i2, pw_and2 k.tst i3⟩
    | cons k2 r2 => exact ⟨pe_and2 (m := .esc) (by simp) h.K k.esc i1, pe_and2 (m := .bor) (by simp) h.K k.bor i2, pw_and2 k.tst i3⟩
theorem snd_or {es : List Expr} {ts : List E} (h : XOk T C sc gen X) (k : AllE C X es ts) : PE X (.BoolOp .Or es pos) (tR C (boE false ts).pur .esc (ev C.call (boE false ts) .esc)) ∧ PE X (.BoolOp .Or es pos) (tR C (boE false ts).pur .bor (ev C.call (boE false ts) .bor)) ∧ PW X (.BoolOp .Or es pos) (tT C (boE false ts).pur (ev C.call (boE false ts) .bor)) := by
  induction k with
  | one k => exact ⟨pe_one k.esc, pe_one k.bor, pw_or1 k.tst⟩
  | @cons e t es ts k r ih =>
    obtain ⟨i1, i2, i3⟩ := ih
    cases r with
    | one k2 => exact ⟨pe_or2 (m := .esc) (by simp) h.K k.esc i1, pe_or2 (m := .bor) (by simp) h.K k.bor i2, pw_or2 k.tst i3⟩
    | cons k2 r2 => exact ⟨pe_or2 (m := .esc) (by simp) h.K k.esc i1, pe_or2 (m := .bor) (by simp) h.K k.bor i2, pw_or2 k.tst i3⟩
def boOk (ts : List E) : Bool := decide (2 ≤ ts.length)
theorem snd_bo {and : Bool} {es : List Expr} {ts : List E} (h : XOk T C sc gen X) (k : AllE C X es ts) (hl : 2 ≤ ts.length) : SndE C X (.BoolOp (if and = true then .And else .Or) es pos) (boE and ts) := by
  have nf : (boE and ts).isF = false := by
    match ts, hl with
    | t :: u :: r, _ => cases and <;> rfl
  cases and with
  | true =>
    obtain ⟨h1, h2, h3⟩ := snd_and (pos := pos) h k
    exact ⟨h1, h2, (fun z => by rw [nf] at z; cases z), h3.pt, rfl⟩
  | false =>
    obtain ⟨h1, h2, h3⟩ := snd_or (pos := pos) h k
    exact ⟨h1, h2, (fun z => by rw [nf] at z; cases z), h3.pt, rfl⟩
theorem pt_ife {pa pb pc : Bool} {f g h : Env → Res (D × Env)} (hc : PT X c (tT C pc h)) (ha : PT X a (tT C pa f)) (hb : PT X b (tT C pb g)) : PT X (.IfExp c a b pos) (tT C (pc && (pa && pb)) fun ε => (h ε).bind fun p => (truth p.1).bind fun t => if t = true then f p.2 else g p.2) := by
  have k : PT X (.IfExp c a b pos) (fun σ H Q => tT C pc h σ H fun d H1 => if d = true then tT C pa f σ H1 Q else tT C pb g σ H1 Q) := by
    refine ⟨fun pins s σ H Q I w => isTrue_IfExp (thn (hc.run pins s σ H _ I w) fun d s1 ⟨H1, I1, q1⟩ => ?_)⟩
    cases d with
    | true => exact ha.run pins s1 σ H1 Q I1 q1
    | false => exact hb.run pins s1 σ H1 Q I1 q1
  refine PT.imp k fun σ H Q ⟨N, G, ε, F, w⟩ => ⟨N, G, ε, F, ?_⟩
  have w' : Post C N σ (pc && (pa && pb)) G H (((h ε).bind fun q => (truth q.1).bind fun t => .ok (t, q.2)).bind fun q => if q.1 = true then (f q.2).bind fun q => (truth q.1).bind fun t => .ok (t, q.2) else (g q.2).bind fun q => (truth q.1).bind fun t => .ok (t, q.2)) fun b _ H' _ => Q b H' := by
    dsimp only at w
    revert w
    cases h ε with
    | no => exact fun w => w
    | er c x => exact fun w => w
    | ok q =>
      simp only [Res.bind_ok]
      cases truth q.1 with
      | no => exact fun w => w
      | er c x => exact fun w => w
      | ok t => cases t <;> exact fun w => w
  refine w'.bind.imp fun t G1 H1 ε1 F1 g1 w1 => ?_
  have cut : ∀ (q : Bool) (r : Res (Bool × Env)), (q = false → (pa && pb) = false) → Post C N σ (pa && pb) G1 H1 r (fun b _ H' _ => Q b H') → Post C N σ q G1 H1 r fun b _ H' _ => Q b H' := fun q r hq z => by
    cases r with
    | no => exact z
    | er c x => exact fun G' H' cls dd g' e => z G' H' cls dd (g'.weak fun b y => ⟨hq y.1, y.2⟩) e
    | ok y => exact fun G' H' F' g' => z G' H' F' (g'.weak fun b y => ⟨hq y.1, y.2⟩)
  cases t with
  | true => exact ⟨N, G1, ε1, F1, cut pa _ (fun z => by rw [z]; rfl) w1⟩
  | false => exact ⟨N, G1, ε1, F1, cut pb _ (fun z => by rw [z]; cases pa <;> rfl) w1⟩
theorem snd_ife (hc : SndE C X c tc) (ha : SndE C X a ta) (hb : SndE C X b tb) : SndE C X (.IfExp c a b pos) (.ife tc ta tb) :=
  ⟨pe_ife hc.tst ha.esc hb.esc, pe_ife hc.tst ha.bor hb.bor, (fun z => by cases z), pt_ife hc.tst ha.tst hb.tst, rfl⟩
/-! #### displays, subscripts -/
structure SndL (C : Cn) (X : Cx) (es : List Expr) (ts : EL) : Prop where
  l : PA X es (tL C ts.pur (evL C.call ts))
theorem sndl_nil : SndL C X [] .nil := ⟨tl_nil⟩
theorem sndl_cons {es : List Expr} {ts : EL} (ha : SndE C X a ta) (hr : SndL C X es ts) : SndL C X (a :: es) (.cons ta ts) := ⟨tl_cons ha.esc hr.l (star_c ha.nos _)⟩
theorem sndl_star {es : List Expr} {ts : EL} (h : XOk T C sc gen X) (ha : SndE C X a ta) (hr : SndL C X es ts) : SndL C X (.Starred a pos :: es) (.star ta ts) := ⟨tl_star h.K ha.esc hr.l⟩
theorem snd_tup {es : List Expr} {ts : EL} {j : Nat} (h : XOk T C sc gen X) (hr : SndL C X es ts) : SndE C X (.Tuple es j pos) (.tup ts) := snd_esc (t := .tup ts) h.K (pe_tp hr.l) rfl rfl (fun _ => rfl) rfl
theorem snd_lst {es : List Expr} {ts : EL} (h : XOk T C sc gen X) (hr : SndL C X es ts) : SndE C X (.List es pos) (.lst ts) := snd_frx (t := .lst ts) h.K (pe_ls hr.l) rfl (fun _ => rfl) rfl
def noSlice : Expr → Bool
  | .Slice .. => false
  | _ => true
theorem plain_of {b : Expr} (h : noSlice b = true) : PlainIx b := by
  intro o i
  cases b <;> first | rfl | cases h
theorem snd_idx (h : XOk T C sc gen X) (ha : SndE C X a ta) (hb : SndE C X b tb) (hk : (tb.pur || ta.own) = true) (hs : noSlice b = true) : SndE C X (.Subscript a b pos) (.idx ta tb) := by
  obtain ⟨m, m1, m2, hl⟩ := ha.left hk
  exact snd_esc (t := .idx ta tb) h.K (pe_idx (by have := h.room.un; omega) m1 m2 (plain_of hs) h.K hl hb.esc) rfl rfl (fun _ => rfl) rfl
theorem snd_mth {x : Str} {k : Mt} {p1 apos : Pos} (h : XOk T C sc gen X) (ha : SndE C X (.Name x p1) ta) (hb : SndE C X b tb) (hk : (tb.pur || ta.own) = true) (hl : (apos.endLine == pos.line) = true) : SndE C X (.Call (.Attribute (.Name x p1) k.nm apos) [b] [] pos) (.mth k ta tb) := by
  obtain ⟨m, m1, m2, hl'⟩ := ha.left hk
  exact snd_esc (t := .mth k ta tb) h.K (pe_mth m1 m2 h.K hl' hb.esc hb.nos (fun k => by cases k <;> rfl) hl) rfl rfl (fun _ => rfl) rfl
structure SndO (C : Cn) (X : Cx) (o : Option Expr) (t : E) : Prop where
  o : PO X o (tO C t.pur t.abs (ev C.call t .esc))
theorem sndo_n : SndO C X none (.c .non) := ⟨po_n⟩
theorem sndo_s (ha : SndE C X a ta) (hn : ta.abs = false) : SndO C X (some a) ta := ⟨by rw [hn]; exact po_s ha.esc⟩
theorem snd_sli {lo hi : Option Expr} {tl th : E} {p2 : Pos} (h : XOk T C sc gen X) (ha : SndE C X a ta) (hl : SndO C X lo tl) (hh : SndO C X hi th) (hk : ((tl.pur && th.pur) || ta.own) = true) : SndE C X (.Subscript a (.Slice lo hi none p2) pos) (.sli ta tl th) := by
  obtain ⟨m, m1, m2, hx⟩ := ha.left hk
  exact snd_frx (t := .sli ta tl th) h.K (pe_sl m1 (m2.imp (fun z => by simpa using z) id) h.K hx hl.o hh.o) rfl (fun _ => rfl) rfl
theorem snd_rev {k : Nat} {p1 p2 p3 : Pos} (h : XOk T C sc gen X) (ha : SndE C X a ta) : SndE C X (.Subscript a (.Slice none none (some (.UnaryOp .USub (.Constant (.int 1) k p1) p2)) p3) pos) (.rev ta) :=
  snd_frx (t := .rev ta) h.K (pe_rv (m := .bor) (by simp) h.K ha.bor) rfl (fun _ => rfl) rfl
end
end Ev
/-! ### dict comprehensions -/
namespace Ev
open PySem PySem.Spec PyProof.Rows L2
section
variable {C : Cn} {X : Cx} {N : En} {G H : Hp} {ε : Env} {σ : L2.St}
def turnD (fc : Env → Res (Bool × Env)) (fk fe : Env → Res (D × Env)) (ε : Env) : Res (Option (D × D) × Env) := ((fc ε).bind fun q => if q.1 = true then (fk q.2).bind fun s => (fe s.2).bind fun r => .ok (some (s.1, r.1), r.2) else .ok (none, q.2)).sure
theorem turnD_ne (fc : Env → Res (Bool × Env)) (fk fe : Env → Res (D × Env)) (ε : Env) (c : Nat) (x : D) : turnD fc fk fe ε ≠ .er c x := by
  unfold turnD
  generalize ((fc ε).bind fun q => if q.1 = true then (fk q.2).bind fun s => (fe s.2).bind fun r => .ok (some (s.1, r.1), r.2) else .ok (none, q.2)) = r
  cases r <;> simp [Res.sure]
theorem turnD_ok {fc : Env → Res (Bool × Env)} {fk fe : Env → Res (D × Env)} {ε ε2 : Env} {od : Option (D × D)} (h : turnD fc fk fe ε = .ok (od, ε2)) : ∃ b ε1, fc ε = .ok (b, ε1) ∧ ((b = true ∧ ∃ k d ε3, fk ε1 = .ok (k, ε3) ∧ fe ε3 = .ok (d, ε2) ∧ od = some (k, d)) ∨ (b = false ∧ od = none ∧ ε2 = ε1)) := by
  have h' : ((fc ε).bind fun q => if q.1 = true then (fk q.2).bind fun s => (fe s.2).bind fun r => .ok (some (s.1, r.1), r.2) else .ok (none, q.2)) = .ok (od, ε2) := by
    unfold turnD at h
    revert h
    generalize ((fc ε).bind fun q => if q.1 = true then (fk q.2).bind fun s => (fe s.2).bind fun r => .ok (some (s.1, r.1), r.2) else .ok (none, q.2)) = r
    cases r with
    | ok a => exact fun h => h
    | er c x => exact fun h => by cases h
    | no => exact fun h => by cases h
  obtain ⟨⟨b, ε1⟩, h1, h2⟩ := bind_inv h'
  refine ⟨b, ε1, h1, ?_⟩
  cases b with
  | false =>
    cases h2
    exact .inr ⟨rfl, rfl, rfl⟩
  | true =>
    obtain ⟨⟨k, ε3⟩, h3, h2⟩ := bind_inv h2
    obtain ⟨⟨d, ε4⟩, h4, h2⟩ := bind_inv h2
    cases h2
    exact .inl ⟨rfl, k, d, ε3, h3, h4, rfl⟩
theorem turn2_ok {vs : List Nat} {tg : Tg} {pc pk pe : Bool} {fc : Env → Res (Bool × Env)} {fk fe : Env → Res (D × Env)} {J : L2.It} {i : Nat} {x : V} {H1 : Hp} {ds : List D} {G0 : Hp} {d : D} {ε1 ε2 : Env} {od : Option (D × D)} {Kf : Option (V × V) → Hp → Prop}
    (hv : ∀ i ∈ vs, C.cl i = .pl ∧ i < σ.length) (hs : vs = tg.slots) {q : Bool} {H0 : Hp} (ij : ItOk C q tg G0 H0 J ds) (lt : Lt q G0 H0 G H) (F : Fr C N G H (wipeE ε vs) (wipe σ vs)) (hd : ds[i]? = some d) (hy : J.yld i H x H1) (hb : bindT tg d (wipeE ε vs) = .ok ε1) (ht : turnD fc fk fe ε1 = .ok (od, ε2))
    (k : ∀ G5 H5 ov, Fr C N G5 H5 (wipeE ε2 vs) (wipe σ vs) → Go C.tabs (Mx C σ (pc && (pk && pe))) G H G5 H5 → (match od, ov with
      | some d, some y => Rp C.K C.fa G5 d.1 y.1 ∧ Rp C.K C.fa G5 d.2 y.2
      | none, none => True
      | _, _ => False) → Kf ov H5) :
    tTg C.K tg x (wipe σ vs) H1 fun σ2 H2 => wipe σ2 vs = wipe σ vs ∧ tB C.cut pc fc σ2 H2 fun b H3 => if b = true then tR C.cut pk .esc fk σ2 H3 fun y H4 => tR C.cut pe .esc fe σ2 H4 fun z H5 => Kf (some (y, z)) H5 else Kf none H3 := by
  obtain ⟨G2, F2, g2, rx⟩ := ij.yld i d N G H x H1 _ _ hd lt F hy
  refine bindT_ok F2 rx hb (fun j hj => ?_) fun σ2 F3 l3 a3 => ?_
  · have := hv j (by rw [hs]; exact hj)
    rw [wipe_length]
    exact this
  have hw : wipe σ2 vs = wipe σ vs := by
    apply List.ext_getElem?
    intro j
    by_cases hj : j ∈ vs
    · have l1 : j < σ2.length := by rw [l3, wipe_length]; exact (hv j hj).2
      have w1 : ∀ {ρ : L2.St} {us : List Nat}, j ∈ us → j < ρ.length → (wipe ρ us)[j]? = some none := by
        intro ρ us
        induction us with
        | nil => intro h; cases h
        | cons u us ih =>
          intro h hl
          rw [wipe]
          by_cases hu : u = j
          · subst hu
            rw [List.getElem?_set_self (by rw [wipe_length]; exact hl)]
          · rw [List.getElem?_set_ne hu]
            rcases List.mem_cons.mp h with z | z
            · exact absurd z.symm hu
            · exact ih z hl
      rw [w1 hj l1, w1 hj (hv j hj).2]
    · rw [wipe_ne hj, a3 j (by rw [← hs]; exact hj)]
  refine ⟨hw, ?_⟩
  have ms : ∀ p b, Mx C.cut σ2 p b → Mx C σ p b := fun p b z => ⟨z.1, by
    obtain ⟨i, c, e⟩ := z.2
    exact ms_wipe (C := C) (fun i hi => (hv i hi).1) hw ⟨i, c, e⟩⟩
  obtain ⟨b, ε3, e1, e2⟩ := turnD_ok ht
  refine ⟨N, G2, ε1, F3.cut, ?_⟩
  rw [e1]
  intro G3 H3 F4 g4
  have ga : Go C.tabs (Mx C σ (pc && (pk && pe))) G H G3 H3 := (g2.weak fun _ z => z.elim).trans (g4.weak fun b z => let y := ms _ _ z; ⟨by rw [y.1]; rfl, y.2⟩)
  rcases e2 with ⟨rfl, k', d', ε4, e3, e4, rfl⟩ | ⟨rfl, rfl, rfl⟩
  · show tR C.cut pk .esc fk σ2 H3 fun y H4 => tR C.cut pe .esc fe σ2 H4 fun z H5 => Kf (some (y, z)) H5
    refine ⟨N, G3, ε3, F4, ?_⟩
    rw [e3]
    intro G4 H4 F5 g5 v rv
    refine ⟨N, G4, ε4, F5, ?_⟩
    rw [e4]
    intro G5 H5 F6 g6 u ru
    refine k G5 H5 (some (v, u)) ?_ ((ga.trans (g5.weak fun b z => let y := ms _ _ z; ⟨by rw [y.1]; cases pc <;> rfl, y.2⟩)).trans (g6.weak fun b z => let y := ms _ _ z; ⟨by rw [y.1]; cases pc <;> cases pk <;> rfl, y.2⟩)) ⟨Rp.mono g6.ext rv, ru⟩
    have := F6.uncut.wipe (vs := vs) fun i hi => (hv i hi).1
    rw [hw] at this
    exact this
  · show Kf none H3
    refine k G3 H3 none ?_ ga trivial
    have := F4.uncut.wipe (vs := vs) fun i hi => (hv i hi).1
    rw [hw] at this
    exact this
theorem isKey_V {K : PySem.W.Frag} {fa : Nat → Option Addr} {G : Hp} {k : D} {v : V} (h : isKey k = true) (r : Rp K fa G k v) : ∃ q : Key, v = kV q ∧ k = keyD q := by
  cases k with
  | int i => obtain rfl : v = .int i := r; exact ⟨.inl i, rfl, rfl⟩
  | str x => obtain ⟨rfl, _⟩ := r; exact ⟨.inr x, rfl, rfl⟩
  | _ => cases h
theorem dcL_ne {tg : Tg} {f : Env → Res (Option (D × D) × Env)} {vs : List Nat} (hf : ∀ ε c x, f ε ≠ .er c x) : ∀ (xs : List D) (acc : List (D × D)) (ε : Env) (c : Nat) (x : D), dcL tg f vs xs acc ε ≠ .er c x
  | [], acc, ε, c, x => by simp [dcL]
  | y :: ys, acc, ε, c, x => by
    unfold dcL
    refine bind_ne (bindT_ne tg y _) (fun a => bind_ne (hf a) fun q c x => ?_) c x
    split
    · exact dcL_ne hf ys _ _ c x
    · split
      · exact dcL_ne hf ys _ _ c x
      · simp
theorem dcL_cons {tg : Tg} {f : Env → Res (Option (D × D) × Env)} {vs : List Nat} {x : D} {xs : List D} {acc : List (D × D)} {ε : Env} {r : List (D × D) × Env} (h : dcL tg f vs (x :: xs) acc ε = .ok r) :
    ∃ ε1 od ε2, bindT tg x (wipeE ε vs) = .ok ε1 ∧ f ε1 = .ok (od, ε2) ∧ ((od = none ∧ dcL tg f vs xs acc ε2 = .ok r) ∨ ∃ k d, od = some (k, d) ∧ isKey k = true ∧ acc.length < LIM ∧ dcL tg f vs xs (putD k d acc) ε2 = .ok r) := by
  unfold dcL at h
  obtain ⟨ε1, h1, h⟩ := bind_inv h
  obtain ⟨⟨od, ε2⟩, h2, h⟩ := bind_inv h
  refine ⟨ε1, od, ε2, h1, h2, ?_⟩
  dsimp only at h
  split at h
  · exact .inl ⟨rfl, h⟩
  · rename_i k d
    split at h
    · rename_i hk
      rw [Bool.and_eq_true] at hk
      exact .inr ⟨k, d, rfl, hk.1, of_decide_eq_true hk.2, h⟩
    · cases h
def dcF (tg : Tg) (fi : Env → Res (List D × Env)) (ft : Env → Res (Option (D × D) × Env)) (ε : Env) : Res (D × Env) := (fi ε).bind fun p => (dcL tg ft tg.slots p.1 [] p.2).bind fun q => if q.1.length ≤ LIM then .ok (.dct q.1, backE p.2 q.2 tg.slots) else .no
theorem dc_imp {tg : Tg} {pi pc pk pe q : Bool} (hq : q = true → (pc && (pk && pe)) = true) {fi : Env → Res (List D × Env)} {fc : Env → Res (Bool × Env)} {fk fe : Env → Res (D × Env)} (hcl : ∀ i ∈ tg.slots, C.cl i = .pl) (hln : ∀ i ∈ tg.slots, i < C.N.length) {σ : L2.St} {H : Hp} {Q : VK}
    (w : tR C (pi && (pc && (pk && pe))) .frx (dcF tg fi (turnD fc fk fe)) σ H Q) : tDc (tI C pi q tg fi) (tTg C.K tg) (tB C.cut pc fc) (tR C.cut pk .esc fk) (tR C.cut pe .esc fe) tg.slots σ H Q := by
  obtain ⟨N, G, ε, F, w⟩ := w
  refine ⟨N, G, ε, F, ?_⟩
  unfold dcF at w
  refine w.bind.imp fun ds G1 H1 ε1 F1 g1 w1 J ij D hD => ?_
  obtain ⟨⟨q1, q2⟩, hrun, w2⟩ := w1.val (dcL_ne (turnD_ne fc fk fe) ds [] ε1)
  dsimp only at w2
  split at w2
  rotate_left
  · exact w2.elim
  have ltk : ∀ {G' H' : Hp} {ε' : Env}, Sub G1 G' → Fr C N G' H' ε' (wipe σ tg.slots) → Go C.tabs (Mx C σ (pc && (pk && pe))) G1 H1 G' H' → Lt q G1 H1 G' H' := fun {G' H' ε'} sub F' g' =>
    ⟨sub, F'.sub, fun h b o e t => g'.keep b o e (fun z => by have := z.1; rw [hq h] at this; cases this) t⟩
  have hl1 := F1.ln
  have hv : ∀ i ∈ tg.slots, C.cl i = .pl ∧ i < σ.length := fun i h => ⟨hcl i h, by rw [hl1]; exact hln i h⟩
  have sD : ∀ i, C.cl i ≠ .pl → (wipe σ tg.slots)[i]? ≠ some (some (.ref D)) := fun i c z => by
    have hj : i ∉ tg.slots := fun y => c (hcl i y)
    rw [wipe_ne hj] at z
    exact F1.dm i D c z hD
  have mD : ∀ b, Mx C σ (pc && (pk && pe)) b → b ≠ D := fun b z y => by
    obtain ⟨i, c, e⟩ := z.2
    exact F1.dm i b (by rw [c]; simp) e (by rw [y]; exact hD)
  have d0 : N.H0 D = none := F1.go.back hD
  refine ⟨fun i m H' => ∃ G' ε' kvs accd, m = ds.length - i ∧ i ≤ ds.length ∧ H' D = some (.dK kvs) ∧ G' D = none ∧ Sub G1 G' ∧ RpK C.K C.fa G' accd kvs ∧ Fr C N G' H' (wipeE ε' tg.slots) (wipe σ tg.slots) ∧ Go C.tabs (Mx C σ (pc && (pk && pe))) G1 H1 G' H' ∧ dcL tg (turnD fc fk fe) tg.slots (ds.drop i) accd ε' = .ok (q1, q2), ?_, ?_⟩
  · obtain ⟨F2, g2⟩ := F1.newH (o := .dK []) hD
    exact ⟨ds.length, G1, ε1, [], [], rfl, Nat.zero_le _, upd_same, F1.gnone hD, Sub.refl _, rfl, F2.wipe hcl, g2.weak fun _ z => z.elim, hrun⟩
  · rintro i m H' ⟨G', ε', kvs, accd, rfl, hi', hacc, hGD, sub, racc, F', g', hr⟩
    cases hdr : ds.drop i with
    | nil =>
      rw [hdr] at hr
      cases hr
      have hil : ds.length ≤ i := by
        have := congrArg List.length hdr
        simp at this
        omega
      refine .inl ⟨ij.stop i G' H' (ltk sub F' g') hil, ?_⟩
      have FB := F1.back hcl sub F'
      exact w2 G' H' FB (g'.weak fun b z => z) (.ref D) ⟨fun _ => ⟨D, rfl, g1.back hD, hGD, kvs, hacc, racc⟩, fun z => by cases z⟩
    | cons x xs =>
      obtain ⟨hx, hx2, hlt⟩ := drop_at hdr
      rw [hdr] at hr
      obtain ⟨ε2, od, ε3, e1, e2, e3⟩ := dcL_cons hr
      refine .inr ⟨ij.go i G' H' (ltk sub F' g') hlt, fun H5 => ∃ G' ε' kvs accd, H5 D = some (.dK kvs) ∧ G' D = none ∧ Sub G1 G' ∧ RpK C.K C.fa G' accd kvs ∧ Fr C N G' H5 (wipeE ε' tg.slots) (wipe σ tg.slots) ∧ Go C.tabs (Mx C σ (pc && (pk && pe))) G1 H1 G' H5 ∧ dcL tg (turnD fc fk fe) tg.slots (ds.drop (i + 1)) accd ε' = .ok (q1, q2),
        fun H5 ⟨G', ε', kvs, accd, h⟩ => ⟨ds.length - (i + 1), by omega, G', ε', kvs, accd, rfl, by omega, h⟩, fun v H2 hy => ?_⟩
      refine turn2_ok (G0 := G1) (H0 := H1) (Kf := fun ov H4 => match ov with
        | some y => ∃ kvs k, y.1 = kV k ∧ H4 D = some (.dK kvs) ∧ kvs.length < sizeLine ∧ ∃ G' ε' kvs' accd, upd H4 D (.dK (putK kvs k y.2)) D = some (.dK kvs') ∧ G' D = none ∧ Sub G1 G' ∧ RpK C.K C.fa G' accd kvs' ∧ Fr C N G' (upd H4 D (.dK (putK kvs k y.2))) (wipeE ε' tg.slots) (wipe σ tg.slots) ∧ Go C.tabs (Mx C σ (pc && (pk && pe))) G1 H1 G' (upd H4 D (.dK (putK kvs k y.2))) ∧ dcL tg (turnD fc fk fe) tg.slots (ds.drop (i + 1)) accd ε' = .ok (q1, q2)
        | none => ∃ G' ε' kvs accd, H4 D = some (.dK kvs) ∧ G' D = none ∧ Sub G1 G' ∧ RpK C.K C.fa G' accd kvs ∧ Fr C N G' H4 (wipeE ε' tg.slots) (wipe σ tg.slots) ∧ Go C.tabs (Mx C σ (pc && (pk && pe))) G1 H1 G' H4 ∧ dcL tg (turnD fc fk fe) tg.slots (ds.drop (i + 1)) accd ε' = .ok (q1, q2))
        hv rfl ij (ltk sub F' g') F' hx hy e1 e2 fun G5 H5 ov F5 g5 hov => ?_
      have keepD : H5 D = some (.dK kvs) := g5.keep D _ hacc (fun z => mD D z rfl) (fun ps z => by cases z)
      have g15 := g'.trans g5
      have gD : G5 D = none := by
        cases hq : G5 D with
        | none => rfl
        | some u =>
          rcases g5.new D (by rw [hq]; simp) with z | z
          · exact absurd hGD z
          · rw [hacc] at z; cases z
      rcases e3 with ⟨rfl, e3⟩ | ⟨kd, dd, rfl, hk, hl, e3⟩
      · cases ov with
        | some y => exact hov.elim
        | none => exact ⟨G5, ε3, kvs, accd, keepD, gD, sub.trans g5.ext, racc.mono g5.ext, F5, g15, by rw [hx2]; exact e3⟩
      · cases ov with
        | none => exact hov.elim
        | some y =>
          obtain ⟨k1, k2⟩ := hov
          obtain ⟨key, hy1, hy2⟩ := isKey_V hk k1
          have hla : kvs.length < sizeLine := by
            have l1 := racc.len
            have := lim_sz
            omega
          refine ⟨kvs, key, hy1, keepD, hla, G5, ε3, putK kvs key y.2, putD kd dd accd, upd_same, gD, sub.trans g5.ext, ?_, F5.upd keepD Soft.dK gD d0 sD, g15.upd hD keepD Soft.dK, by rw [hx2]; exact e3⟩
          have hy2 : kd = keyD key := hy2
          rw [hy2]
          exact RpK.put k2 (racc.mono g5.ext)
theorem pe_dcA {kx vx tgE iter : Expr} {ifs : List Expr} {scope : Scope} {own : List (Str × Nat)} {pos : Pos} {tg : Tg} {pi pc pk pe q : Bool} (hq : q = true → (pc && (pk && pe)) = true) {fi : Env → Res (List D × Env)} {fc : Env → Res (Bool × Env)} {fk fe : Env → Res (D × Env)}
    (hc : X.calm = true) (hN : X.N.Nodup) (hcl : ∀ i ∈ tg.slots, C.cl i = .pl) (hln : ∀ i ∈ tg.slots, i < C.N.length) (ho : own.map (·.2) = tg.slots) (ok : BlkOk X.N X.env.scope scope own) (hi : PI X tgE iter (tI C pi q tg fi))
    (hg : ∀ (s : Shared) (H : Hp) (c : Addr) (cl : List (Str × Addr)) (fp : List Addr), PG (X.blk s H scope (compEnvC scope cl c X.env) fp) tgE (tTg C.K tg))
    (ht : ∀ (s : Shared) (H : Hp) (c : Addr) (cl : List (Str × Addr)) (fp : List Addr), PTs (X.blk s H scope (compEnvC scope cl c X.env) fp) ifs (tB C.cut pc fc))
    (hk : ∀ (s : Shared) (H : Hp) (c : Addr) (cl : List (Str × Addr)) (fp : List Addr), PE (X.blk s H scope (compEnvC scope cl c X.env) fp) kx (tR C.cut pk .esc fk))
    (he : ∀ (s : Shared) (H : Hp) (c : Addr) (cl : List (Str × Addr)) (fp : List Addr), PE (X.blk s H scope (compEnvC scope cl c X.env) fp) vx (tR C.cut pe .esc fe)) (hs : ∀ x, foldedSetIterable iter X.env x = pure x) :
    PE X (.DictComp kx vx [⟨tgE, iter, ifs, 0⟩] scope pos) (tR C (pi && (pc && (pk && pe))) .frx (dcF tg fi (turnD fc fk fe))) :=
  PE.imp (pe_dc hc hN hi ok hg ht hk he hs) fun σ H Q w => by rw [ho]; exact dc_imp hq hcl hln w
end
end Ev
/-! ### calls, built-ins, comprehensions, arm by arm -/
namespace Ev
open PySem PySem.Spec PyProof.Rows L2
section
variable {T : TC} {C : Cn} {X : Cx} {sc scope : Scope} {gen : Bool} {a b c e tgE : Expr} {ta tb tc : E} {pos pp : Pos}
/-! #### calls of defs -/
def akL : EL → List (Option Nat)
  | .nil => []
  | .cons _ r => none :: akL r
  | .star _ r => akL r
  | .ref i r => some i :: akL r
theorem evA_k (call : Nat → List D → Res (D × D)) : ∀ (as : EL) (ε : Env) (q : List Arg × Env), evA call as ε = .ok q → q.1.map Arg.k = akL as
  | .nil, ε, q, h => by cases h; rfl
  | .cons e r, ε, q, h => by
    unfold evA at h
    obtain ⟨p1, _, h⟩ := bind_inv h
    obtain ⟨p2, h2, h⟩ := bind_inv h
    cases h
    rw [List.map_cons, evA_k call r _ _ h2]
    rfl
  | .star e r, ε, q, h => by cases h
  | .ref i r, ε, q, h => by
    unfold evA at h
    obtain ⟨p1, _, h⟩ := bind_inv h
    obtain ⟨p2, h2, h⟩ := bind_inv h
    cases h
    rw [List.map_cons, evA_k call r _ _ h2]
    rfl
structure SndA (C : Cn) (X : Cx) (es : List Expr) (ts : EL) : Prop where
  a : PA X es (tAr C ts.pur (evA C.call ts))
  n : es.all nost = true
theorem snda_nil : SndA C X [] .nil := ⟨ta_nil, rfl⟩
theorem snda_cons {es : List Expr} {ts : EL} (ha : SndE C X a ta) (hr : SndA C X es ts) : SndA C X (a :: es) (.cons ta ts) := ⟨ta_cons ha.esc hr.a (star_c ha.nos _), by rw [List.all_cons, ha.nos, hr.n] <;> rfl⟩
theorem snda_ref {i : Nat} {x : Str} {es : List Expr} {ts : EL} (k : COk T C) (h : XOk T C sc gen X) (hi : T.N[i]? = some x) (hv : visC sc x = true) (hd : dunC x = true) (hc : T.c i ≠ .pl) (hr : SndA C X es ts) : SndA C X (.Name x pos :: es) (.ref i ts) := by
  obtain ⟨d1, d2⟩ := dun_of hd
  exact ⟨ta_ref (by rw [h.N]; exact hi) (by rw [h.sc]; exact vis_of hv) d1 d2 (by rw [k.cl]; exact hc) hr.a, by rw [List.all_cons, hr.n] <;> rfl⟩
def optP {α : Type} (o : Option α) (f : α → Bool) : Bool := match o with
  | some a => f a
  | none => true
def clN : Cls → Nat
  | .pl => 0 | .mu => 1 | .bo => 2
def fitC (T : TC) (I : FI) (ks : List (Option Nat)) (mt : Option Nat) : Bool :=
  decide (ks.length = I.np) && (((List.range ks.length).all fun j => match ks.getD j none with
    | none => decide (I.cl j = .pl)
    | some i => ((decide (I.cl j = .mu) && decide (T.c i = .mu)) || (decide (I.cl j = .bo) && !decide (T.c i = .pl))) && (List.range ks.length).all fun j' => !decide (ks.getD j' none = some i) || decide (j = j'))
  && ((match mt with
    | none => !I.m0
    | some i => I.m0 && (decide (ks.getD 0 none = some i) && decide (T.c i = .mu)))))
theorem fit_of {I : FI} {ks : List (Option Nat)} {mt : Option Nat} (k : COk T C) (h : fitC T I ks mt = true) : Fits C I ks mt := by
  unfold fitC at h
  rw [Bool.and_eq_true, Bool.and_eq_true] at h
  obtain ⟨h1, h2, h3⟩ := h
  have h1 := of_decide_eq_true h1
  have at_ : ∀ (j : Nat) (o : Option Nat), ks[j]? = some o → j < ks.length ∧ ks.getD j none = o := fun j o e => ⟨(List.getElem?_eq_some_iff.mp e).1, by rw [List.getD_eq_getElem?_getD, e] <;> rfl⟩
  have row : ∀ (j : Nat) (i : Nat), ks[j]? = some (some i) → ((I.cl j = .mu ∧ T.c i = .mu) ∨ (I.cl j = .bo ∧ T.c i ≠ .pl)) ∧ ∀ j', ks[j']? = some (some i) → j = j' := fun j i e => by
    obtain ⟨hl, hg⟩ := at_ j _ e
    have q := List.all_eq_true.mp h2 j (List.mem_range.mpr hl)
    rw [hg] at q
    dsimp only at q
    rw [Bool.and_eq_true] at q
    refine ⟨by simpa using q.1, fun j' e' => ?_⟩
    obtain ⟨hl', hg'⟩ := at_ j' _ e'
    have q2 := List.all_eq_true.mp q.2 j' (List.mem_range.mpr hl')
    rw [hg'] at q2
    simpa using q2
  refine ⟨h1, fun j e => ?_, fun j i e => by rw [k.cl]; exact (row j i e).1, fun j j' i e e' => (row j i e).2 j' e', fun i e => ?_, fun hm hn => ?_⟩
  · obtain ⟨hl, hg⟩ := at_ j _ e
    have q := List.all_eq_true.mp h2 j (List.mem_range.mpr hl)
    rw [hg] at q
    exact of_decide_eq_true q
  · subst e
    dsimp only at h3
    rw [Bool.and_eq_true, Bool.and_eq_true] at h3
    obtain ⟨q1, q2, q3⟩ := h3
    have q2 := of_decide_eq_true q2
    refine ⟨q1, ?_, by rw [k.cl]; exact of_decide_eq_true q3⟩
    rw [List.getD_eq_getElem?_getD] at q2
    cases e0 : ks[0]? with
    | none => rw [e0] at q2; cases q2
    | some o => rw [e0] at q2; exact congrArg some q2
  · subst hn
    dsimp only at h3
    rw [hm] at h3
    cases h3
theorem snd_call {x : Str} {es : List Expr} {ts : EL} {n : Nat} {I : FI} {mt : Option Nat} (k : COk T C) (h : XOk T C sc gen X) (hg : glC sc x = true) (hd : dunC x = true) (hx : T.gs.lookup x = some (.fn n)) (hI : T.fs[n]? = some I) (ha : SndA C X (a :: es) ts) (hf : fitC T I (akL ts) mt = true) :
    SndE C X (.Call (.Name x pp) (a :: es) [] pos) (.call mt n ts) := by
  obtain ⟨f, fd, ps, F, m, kp, b⟩ := k.fn x n I hx hI
  have hn := ha.n
  rw [List.all_cons, Bool.and_eq_true] at hn
  have F' : FnOk X.prog X.w X.K X.mg X.base C.cx C.lev f fd ps (spF C I (C.call n)) := by rw [h.prog, h.w, h.K, h.mg, h.base]; exact F
  have hr : Room C.lev X.A := h.room.mono (Nat.le_add_right _ _)
  refine snd_esc (t := .call mt n ts) h.K (PE.imp (pe_call (dvs := []) (ds := []) F' hr (gl_of h hg) (by rw [h.mg]; exact m) (by rw [h.K]; exact kp) (by rw [h.K]; exact b) .nil h.pass ha.a (dun_of hd).1 (star_c hn.1 _) (back_any hn.2)) fun σ H Q w => ?_) rfl rfl (fun _ => rfl) rfl
  exact tr_call (fit_of k hf) (evA_k C.call ts) w
/-! #### built-ins -/
structure SndB (C : Cn) (X : Cx) (es : List Expr) (ts : EL) : Prop where
  b : PA X es (tB1 C ts.pur (ev1 C.call ts))
  s : ∃ e r, es = e :: r ∧ nost e = true ∧ r.all nost = true
theorem sndb_one (ha : SndE C X a ta) : SndB C X [a] (.cons ta .nil) := by
  refine ⟨?_, a, [], rfl, ha.nos, rfl⟩
  have k := tb_one (m := .bor) (by simp) ha.bor (star_c (es := []) ha.nos _)
  rw [show (EL.cons ta .nil).pur = ta.pur from Bool.and_true _]
  exact k
theorem sndb_two (ha : SndE C X a ta) (hb : SndE C X b tb) : SndB C X [a, b] (.cons ta (.cons tb .nil)) := by
  refine ⟨?_, a, [b], rfl, ha.nos, by rw [List.all_cons, hb.nos] <;> rfl⟩
  have k := tb_two ha.esc hb.esc (star_c (es := [b]) ha.nos _) (star_c (es := []) hb.nos _)
  rw [show (EL.cons ta (.cons tb .nil)).pur = (ta.pur && tb.pur) from by show (ta.pur && (tb.pur && true)) = _; rw [Bool.and_true]]
  exact k
theorem snd_trg {pp pq pos2 : Pos} {c : Expr} {tc : E} (k : COk T C) (h : XOk T C sc gen X) (hg1 : glC sc "tuple" = true) (hx1 : T.gs.lookup ("tuple" : Str) = some .blt) (hg2 : glC sc "range" = true) (hx2 : T.gs.lookup ("range" : Str) = some .blt) (ha : SndE C X a ta) (hb : SndE C X b tb) (hc : SndE C X c tc) :
    SndE C X (.Call (.Name "tuple" pp) [.Call (.Name "range" pq) [a, b, c] [] pos2] [] pos) (.pri .trg (.cons ta (.cons tb (.cons tc .nil)))) := by
  have m1 : X.mg "tuple" = none := by rw [h.mg]; exact k.blt _ hx1
  have m2 : X.mg "range" = none := by rw [h.mg]; exact k.blt _ hx2
  have s1 := star_c (es := [b, c]) ha.nos X.env
  have s2 := star_c (es := [c]) hb.nos X.env
  have s3 := star_c (es := []) hc.nos X.env
  have s4 := back_any (pos := pos2) (env := X.env) (es := [b, c]) (by simp [hb.nos, hc.nos])
  have key := tb_thr ha.esc hb.esc hc.esc s1 s2 s3
  have e : (E.pri .trg (.cons ta (.cons tb (.cons tc .nil)))).pur = (ta.pur && (tb.pur && tc.pur)) := by show (ta.pur && (tb.pur && (tc.pur && true))) = _; rw [Bool.and_true]
  exact snd_esc (t := .pri .trg (.cons ta (.cons tb (.cons tc .nil)))) h.K (PE.imp (PT.pe_trg h.calm (gl_of h hg1) m1 (gl_of h hg2) m2 key s1 s4) fun σ H Q w => by rw [e] at w; exact tr_cb ok_trg (priD_ne .trg) w) rfl rfl (fun _ => rfl) rfl
theorem snd_sst {pp pq pos2 : Pos} (k : COk T C) (h : XOk T C sc gen X) (hg1 : glC sc "sorted" = true) (hx1 : T.gs.lookup ("sorted" : Str) = some .blt) (hg2 : glC sc "set" = true) (hx2 : T.gs.lookup ("set" : Str) = some .blt) (ha : SndE C X a ta) :
    SndE C X (.Call (.Name "sorted" pp) [.Call (.Name "set" pq) [a] [] pos2] [] pos) (.pri .sst (.cons ta .nil)) := by
  have m1 : X.mg "sorted" = none := by rw [h.mg]; exact k.blt _ hx1
  have m2 : X.mg "set" = none := by rw [h.mg]; exact k.blt _ hx2
  have s1 := star_c (es := []) ha.nos X.env
  have key := (sndb_one ha).b
  exact snd_frx (t := .pri .sst (.cons ta .nil)) h.K (PE.imp (PT.pe_sst h.calm (gl_of h hg1) m1 (gl_of h hg2) m2 key s1) fun σ H Q w => by rw [h.K]; exact tr_cb ok_sst (priD_ne .sst) w) rfl (fun _ => rfl) rfl
theorem snd_lrg {pp pq pos2 : Pos} (k : COk T C) (h : XOk T C sc gen X) (hg1 : glC sc "list" = true) (hx1 : T.gs.lookup ("list" : Str) = some .blt) (hg2 : glC sc "range" = true) (hx2 : T.gs.lookup ("range" : Str) = some .blt) (ha : SndE C X a ta) :
    SndE C X (.Call (.Name "list" pp) [.Call (.Name "range" pq) [a] [] pos2] [] pos) (.pri .lrg (.cons ta .nil)) := by
  have m1 : X.mg "list" = none := by rw [h.mg]; exact k.blt _ hx1
  have m2 : X.mg "range" = none := by rw [h.mg]; exact k.blt _ hx2
  have s1 := star_c (es := []) ha.nos X.env
  refine snd_frx (t := .pri .lrg (.cons ta .nil)) h.K (PE.imp (pe_listRg h.calm (gl_of h hg1) m1 (prg_1 (gl_of h hg2) m2 ha.bor s1)) fun σ H Q ⟨N, G, ε, F, w⟩ => ⟨N, G, ε, F, ?_⟩) rfl (fun _ => rfl) rfl
  have w' : Post C N σ (ta.pur && true) G H ((ev C.call ta .bor ε).bind fun p => (priD .lrg [p.1]).bind fun d => .ok (d, p.2)) fun d G' H' _ => ∀ v, RM C .frx G' H H' d v → Q v H' := by
    have e : ev C.call (.pri .lrg (.cons ta .nil)) .esc ε = ((ev C.call ta .bor ε).bind fun p => (priD .lrg [p.1]).bind fun d => .ok (d, p.2)) := by
      simp only [ev, ev1]
      cases ev C.call ta .bor ε <;> rfl
    rw [← e]
    exact w
  refine w'.bind.imp fun d G1 H1 ε1 F1 g1 w1 v rv => ?_
  obtain ⟨z, hz, w2⟩ := w1.val (priD_ne .lrg [d])
  obtain ⟨n, e, r1, r2⟩ := ok_lrg (C := C) N G1 H1 ε1 σ [d] z [v] Q F1 (.cons rv .nil) hz fun G' H' v' F' g' r' => w2 G' H' F' (g'.weak fun _ z => z.elim) v' (RM.back (N := N) (g1.weak (M' := fun _ => True) fun _ _ => True.intro) r')
  cases e
  exact ⟨n, rfl, r1, r2⟩
/-- set(a) == set(b), set(a) != set(b), tuples of ints -/
theorem Post.later {α : Type} {N : En} {σ : L2.St} {p : Bool} {G H G1 H1 : Hp} {r : Res (α × Env)} {P : α → Hp → Hp → Env → Prop} (g : Go C.tabs (fun _ => False) G H G1 H1) (w : Post C N σ p G H r P) : Post C N σ p G1 H1 r P := by
  cases r with
  | no => exact w
  | er c x => exact fun G' H' cls dd g' e => w G' H' cls dd ((g.weak fun b z => z.elim).trans g') e
  | ok q => exact fun G' H' F' g' => w G' H' F' ((g.weak fun b z => z.elim).trans g')
theorem setI_eq {l m : List Int} : (∀ k, decide (k ∈ l) = decide (k ∈ m)) ↔ setI l = setI m := by
  constructor
  · intro h
    refine strict_one (setI_srt l) (setI_srt m) fun k => ?_
    rw [setI_mem, setI_mem]
    exact decide_eq_decide.mp (h k)
  · intro h k
    refine decide_eq_decide.mpr ?_
    rw [← setI_mem l, h, setI_mem]
def seP (neg : Bool) : Pr := if neg = true then .sne else .seq
theorem seq_rd {neg : Bool} {j : Nat} {P : D → Hp → Hp → Prop} {N : En} {G H : Hp} {ε : Env} {σ : L2.St} {Q : VK} (hK : X.K = C.K) (F : Fr C N G H ε σ)
    (w : Post C N σ (ta.pur && true) G H (ev C.call (.pri (seP neg) (.cons ta (.cons (.v j) .nil))) .esc ε) fun d G' H' _ => P d G' H') (q : ∀ r G' H', P (.bl r) G' H' → Q (.bl r) H') :
    tOp (PT.rSEq X.w neg) (tCB (PT.rSetT X.K X.w) (tCons (tR C ta.pur .esc (ev C.call ta .esc)) tNil)) (tCB (PT.rSetT X.K X.w) (tCons (tR C true .esc (ev C.call (.v j) .esc)) tNil)) σ H Q := by
  have e : ev C.call (.pri (seP neg) (.cons ta (.cons (.v j) .nil))) .esc ε = ((ev C.call ta .esc ε).bind fun p => ((getE p.2 j).bind fun d => .ok (d, p.2)).bind fun q => (priD (seP neg) [p.1, q.1]).bind fun d => .ok (d, q.2)) := by
    simp only [ev, ev1]
    cases ev C.call ta .esc ε with
    | ok p =>
      simp only [Res.bind_ok]
      cases getE p.2 j <;> rfl
    | er c x => rfl
    | no => rfl
  rw [e] at w
  refine ⟨N, G, ε, F, w.bind.imp fun d G1 H1 ε1 F1 g1 w1 v rv => ?_⟩
  obtain ⟨e1, he1, w2⟩ := w1.val (fun c x => by
    dsimp only
    cases hg : getE ε1 j with
    | ok d => simp
    | no => simp
    | er c x => exact absurd hg (getE_ne ε1 j c x))
  dsimp only at he1
  cases hg : getE ε1 j with
  | no => rw [hg] at he1; cases he1
  | er c x => exact absurd hg (getE_ne ε1 j c x)
  | ok d2 =>
    rw [hg] at he1
    cases he1
    obtain ⟨z, hz, w3⟩ := w2.val (priD_ne (seP neg) [d, d2])
    have hz2 : ∃ xs ys l m, d = .tup xs ∧ d2 = .tup ys ∧ intsD xs = .ok l ∧ intsD ys = .ok m ∧ l.length ≤ 63 ∧ m.length ≤ 63 ∧ z = .bl (if neg = true then !(decide (setI l = setI m)) else decide (setI l = setI m)) := by
      cases neg
      all_goals
        unfold seP at hz
        simp only [Bool.false_eq_true, if_true, if_false] at hz
        unfold priD at hz
        split at hz <;> first
          | contradiction
          | (cases hz; done)
          | skip
        rename_i xs ys h1 hh
        cases hh
        cases hl : intsD xs with
        | no => rw [hl] at hz; cases hz
        | er c x => rw [hl] at hz; cases hz
        | ok l =>
          rw [hl] at hz
          simp only [Res.bind_ok] at hz
          cases hm : intsD ys with
          | no => rw [hm] at hz; cases hz
          | er c x => rw [hm] at hz; cases hz
          | ok m =>
            rw [hm] at hz
            simp only [Res.bind_ok] at hz
            split at hz
            · rename_i hb
              cases hz
              exact ⟨xs, ys, l, m, rfl, rfl, hl, hm, hb.1, hb.2, rfl⟩
            · cases hz
    obtain ⟨xs, ys, l, m, rfl, rfl, hl, hm, bl, bm, rfl⟩ := hz2
    have el := ints_inv hl
    have em := ints_inv hm
    subst el em
    obtain ⟨a, us, rfl, t1, t2⟩ := rv
    have t3 := t2.int
    subst t3
    refine ⟨a, l, rfl, (by rw [hK]; exact (t1.mono F1.sub).sq), bl, fun p n hp hn => ?_⟩
    obtain ⟨F2, g2⟩ := F1.newH (o := SetO X.w p (fun j => decide (j ∈ l)) n) hp
    have w4 : Post C N σ true G1 (upd H1 p (SetO X.w p (fun j => decide (j ∈ l)) n)) ((getE ε1 j).bind fun d => .ok (d, ε1)) fun d2 G' H' ε' => Post C N σ true G' H' (.ok (.bl (if neg = true then !(decide (setI l = setI m)) else decide (setI l = setI m)), ε1)) (fun d G' H' _ => P d G' H') ∧ d2 = .tup (m.map .int) ∧ ε' = ε1 := by
      rw [hg]
      intro G' H' F' g'
      exact ⟨Post.later (g2.trans (g'.weak fun b z => z.true_.elim)) w3, rfl, rfl⟩
    refine ⟨N, G1, ε1, F2, Post.imp (r := ev C.call (.v j) .esc ε1) (by simp only [ev]; exact w4) fun d3 G3 H3 ε3 F3 g3 w50 v2 rv2 => ?_⟩
    obtain ⟨w5, hd3, he3⟩ := w50
    subst hd3 he3
    obtain ⟨a2, us2, rfl, t4, t5⟩ := rv2
    have t6 := t5.int
    subst t6
    refine ⟨a2, m, rfl, (by rw [hK]; exact (t4.mono F3.sub).sq), bm, fun p2 n2 hp2 hn2 => ?_⟩
    obtain ⟨F4, g4⟩ := F3.newH (o := SetO X.w p2 (fun j => decide (j ∈ m)) n2) hp2
    have k1 : H3 p = some (SetO X.w p (fun j => decide (j ∈ l)) n) := g3.keep p _ upd_same (fun z => z.true_) (fun ps z => by unfold SetO at z; cases z)
    refine ⟨p, p2, _, _, n, n2, rfl, rfl, by rw [upd_ne (ne_of_none k1 hp2)]; exact k1, upd_same, fun r hr => ?_⟩
    have w6 := Post.later g4 w5
    have er : r = decide (setI l = setI m) := by
      rw [Bool.eq_iff_iff, decide_eq_true_eq, hr, setI_eq]
    rw [er]
    have w7 := w6.here F4
    cases neg
    · exact q _ _ _ w7
    · exact q _ _ _ w7
theorem snd_seq {neg : Bool} {pp pq p1 p2 : Pos} {b : Expr} {j : Nat} (k : COk T C) (h : XOk T C sc gen X) (hg : glC sc "set" = true) (hx : T.gs.lookup ("set" : Str) = some .blt) (ha : SndE C X a ta) (hb : SndE C X b (.v j)) :
    SndE C X (.Compare (.Call (.Name "set" pp) [a] [] p1) [PT.coN neg] [.Call (.Name "set" pq) [b] [] p2] pos) (.pri (seP neg) (.cons ta (.cons (.v j) .nil))) := by
  have m1 : X.mg "set" = none := by rw [h.mg]; exact k.blt _ hx
  have s1 := star_c (es := []) ha.nos X.env
  have s2 := star_c (es := []) hb.nos X.env
  have hu : X.A.units < cLine := by have := h.room.un; omega
  have e1 := pe_callTy (X := X) (p := pp) (pos := p1) (PT.cr_setT h.calm) (gl_of h hg) m1 (by decide +kernel) (pa_cons ha.esc pa_nil s1) (by decide) (by decide) s1 rfl
  have e2 := pe_callTy (X := X) (p := pq) (pos := p2) (PT.cr_setT h.calm) (gl_of h hg) m1 (by decide +kernel) (pa_cons hb.esc pa_nil s2) (by decide) (by decide) s2 rfl
  have ep : (E.pri (seP neg) (.cons ta (.cons (.v j) .nil))).pur = (ta.pur && true) := by show (ta.pur && (true && true)) = _; rfl
  have rd : ∀ σ H Q, tR C (E.pri (seP neg) (.cons ta (.cons (.v j) .nil))).pur .esc (ev C.call (.pri (seP neg) (.cons ta (.cons (.v j) .nil))) .esc) σ H Q →
      tOp (PT.rSEq X.w neg) (tCB (PT.rSetT X.K X.w) (tCons (tR C ta.pur .esc (ev C.call ta .esc)) tNil)) (tCB (PT.rSetT X.K X.w) (tCons (tR C true .esc (ev C.call (.v j) .esc)) tNil)) σ H Q := fun σ H Q ⟨N, G, ε, F, w⟩ => by
    rw [ep] at w
    exact seq_rd (P := fun d G' H' => ∀ v, RM C .esc G' H H' d v → Q v H') h.K F w fun r G' H' z => z _ rfl
  have esc : PE X (.Compare (.Call (.Name "set" pp) [a] [] p1) [PT.coN neg] [.Call (.Name "set" pq) [b] [] p2] pos) (tR C (E.pri (seP neg) (.cons ta (.cons (.v j) .nil))).pur .esc (ev C.call (.pri (seP neg) (.cons ta (.cons (.v j) .nil))) .esc)) := by
    cases neg with
    | false => exact PE.imp (pe_cmpR (PT.op_seq hu) e1 e2 (nomark _)) rd
    | true => exact PE.imp (pe_cmpR (PT.op_sne hu) e1 e2 (nomark _)) rd
  have tst : PT X (.Compare (.Call (.Name "set" pp) [a] [] p1) [PT.coN neg] [.Call (.Name "set" pq) [b] [] p2] pos) (tT C (E.pri (seP neg) (.cons ta (.cons (.v j) .nil))).pur (ev C.call (.pri (seP neg) (.cons ta (.cons (.v j) .nil))) .bor)) := by
    have rd2 : ∀ σ H Q, tT C (E.pri (seP neg) (.cons ta (.cons (.v j) .nil))).pur (ev C.call (.pri (seP neg) (.cons ta (.cons (.v j) .nil))) .bor) σ H Q →
        tOp (PT.rSEq X.w neg) (tCB (PT.rSetT X.K X.w) (tCons (tR C ta.pur .esc (ev C.call ta .esc)) tNil)) (tCB (PT.rSetT X.K X.w) (tCons (tR C true .esc (ev C.call (.v j) .esc)) tNil)) σ H (fun x H' => ∃ k, x = .bl k ∧ Q k H') := fun σ H Q ⟨N, G, ε, F, w⟩ => by
      rw [ep] at w
      have w' : Post C N σ ((ta.pur && true) && true) G H ((ev C.call (.pri (seP neg) (.cons ta (.cons (.v j) .nil))) .esc ε).bind fun q => (truth q.1).bind fun t => .ok (t, q.2)) fun b _ H' _ => Q b H' := by rw [Bool.and_true]; exact w
      exact seq_rd (P := fun d G' H' => ∀ k, d = .bl k → Q k H') h.K F (w'.bind.imp fun d G1 H1 ε1 F1 g1 w1 k hk => by subst hk; exact w1.here F1) fun r G' H' z => ⟨r, rfl, z r rfl⟩
    cases neg with
    | false => exact PT.imp (pt_cmpR (PT.op_seq hu) e1 e2 (nomark _)) rd2
    | true => exact PT.imp (pt_cmpR (PT.op_sne hu) e1 e2 (nomark _)) rd2
  exact ⟨esc, bor_of_esc esc, fun z => (by cases neg <;> cases z), tst, rfl⟩
theorem snd_lns {pp pq pos2 : Pos} (k : COk T C) (h : XOk T C sc gen X) (hg1 : glC sc "len" = true) (hx1 : T.gs.lookup ("len" : Str) = some .blt) (hg2 : glC sc "set" = true) (hx2 : T.gs.lookup ("set" : Str) = some .blt) (ha : SndE C X a ta) :
    SndE C X (.Call (.Name "len" pp) [.Call (.Name "set" pq) [a] [] pos2] [] pos) (.pri .lns (.cons ta .nil)) := by
  have m1 : X.mg "len" = none := by rw [h.mg]; exact k.blt _ hx1
  have m2 : X.mg "set" = none := by rw [h.mg]; exact k.blt _ hx2
  have s1 := star_c (es := []) ha.nos X.env
  have key := (sndb_one ha).b
  exact snd_esc (t := .pri .lns (.cons ta .nil)) h.K (PE.imp (PT.pe_lns h.calm (gl_of h hg1) m1 (gl_of h hg2) m2 key s1) fun σ H Q w => by rw [h.K]; exact tr_cb ok_lns (priD_ne .lns) w) rfl rfl (fun _ => rfl) rfl
/-- sorted(a, key=f), f giving the first item -/
theorem snd_srk {pp pk kp : Pos} {y : Str} {i : Nat} {I : FI} (k : COk T C) (h : XOk T C sc gen X) (hg1 : glC sc "sorted" = true) (hx1 : T.gs.lookup ("sorted" : Str) = some .blt) (hg2 : glC sc y = true) (hd2 : dunC y = true) (hy : T.gs.lookup y = some (.fn i)) (hI : T.fs[i]? = some I) (hf : I.fst = true) (ha : SndE C X a ta) :
    SndE C X (.Call (.Name "sorted" pp) [a] [⟨some "key", .Name y pk, kp⟩] pos) (.pri .srk (.cons ta .nil)) := by
  have m1 : X.mg "sorted" = none := by rw [h.mg]; exact k.blt _ hx1
  obtain ⟨f, m2, D⟩ := k.fst y i I hy hI hf
  have s1 := star_c (es := []) ha.nos X.env
  have key := (sndb_one ha).b
  have hk : PK X [⟨some "key", .Name y pk, kp⟩] (tCons (tC (.ref f)) tNil) := pk_cons (pe_glob (gl_of h hg2) (by rw [h.mg]; exact m2) rfl (dun_of hd2).1) pk_nil
  have hr := h.room
  have D' : PT.FstD X.K f := by rw [h.K]; exact D
  have key2 := pe_callBK (pos := pos) (p := pp) (PT.cr_srk D' (by have := hr.dp; omega) (by have := hr.un; omega)) (gl_of h hg1) m1 (by decide +kernel) key hk (by decide) (by decide) (by rw [s1]; rfl) (by rw [s1]; rfl) (by rfl) (by rfl) (by rfl)
  exact snd_frx (t := .pri .srk (.cons ta .nil)) h.K (PE.imp key2 fun σ H Q w => by
    have q : tCB (fun vs H Q => PT.rSrk C.K f vs [V.ref f] H Q) (tB1 C (EL.cons ta .nil).pur (ev1 C.call (.cons ta .nil))) σ H Q := tr_cb ok_srk (priD_ne .srk) w
    rw [h.K]
    exact q) rfl (fun _ => rfl) rfl
/-- factorial(a) -/
theorem snd_fct {pp : Pos} {x : Str} (k : COk T C) (h : XOk T C sc gen X) (hg : glC sc x = true) (hd : dunC x = true) (hx : T.gs.lookup x = some .fct) (ha : SndE C X a ta) : SndE C X (.Call (.Name x pp) [a] [] pos) (.pri .fct (.cons ta .nil)) := by
  have m1 : X.mg x = some (.builtin "math.factorial") := by rw [h.mg]; exact k.fct x hx
  have s1 := star_c (es := []) ha.nos X.env
  have key := (sndb_one ha).b
  exact snd_esc (t := .pri .fct (.cons ta .nil)) h.K (PE.imp (pe_callBfun PT.cr_fact (gl_of h hg) m1 key (dun_of hd).1 s1 (by rfl)) fun σ H Q w => tr_cb ok_fct (priD_ne .fct) w) rfl rfl (fun _ => rfl) rfl
/-- nothing is claimed of it -/
theorem snd_stk (hn : nost e = true) : SndE C X e .stk := by
  have key : PE X e (fun _ _ _ => False) := ⟨fun _ _ _ _ _ _ z => z.elim⟩
  refine ⟨PE.imp key fun σ H Q ⟨N, G, ε, F, w⟩ => ?_, PE.imp key fun σ H Q ⟨N, G, ε, F, w⟩ => ?_, fun z => (by cases z), ⟨fun pins s σ H Q I ⟨N, G, ε, F, w⟩ => ?_⟩, hn⟩
  · simp only [ev] at w
    exact w
  · simp only [ev] at w
    exact w
  · simp only [ev] at w
    exact False.elim w
theorem snd_dict0 (h : XOk T C sc gen X) : SndE C X (.Dict [] [] pos) (.pri .dict (.cons (.tup .nil) .nil)) :=
  snd_frx (t := .pri .dict (.cons (.tup .nil) .nil)) h.K (PE.imp pe_dnewK fun σ H Q ⟨N, G, ε, F, w⟩ => fun p hp => by
    have e : ev C.call (.pri .dict (.cons (.tup .nil) .nil)) .esc ε = .ok (.dct [], ε) := by simp [ev, ev1, evL, sizeOk, LIM, priD, dictL, Res.bind_ok]
    have w : Post C N σ (E.pri .dict (.cons (.tup .nil) .nil)).pur G H (Res.ok (D.dct [], ε)) fun d G' H' _ => ∀ v, RM C .frx G' H H' d v → Q v H' := by rw [← e]; exact w
    exact ok_newD (ds := []) (kvs := []) F rfl (fun G' H' v' F' g' r' => w G' H' F' (g'.weak fun _ z => z.elim) v' r') hp) rfl (fun _ => rfl) rfl
def prN (x : Str) : Option Pr :=
  if x = "len" then some .len else if x = "list" then some .list else if x = "tuple" then some .tuple else if x = "int" then some .int else if x = "max" then some .max else if x = "min" then some .min else if x = "sorted" then some .sorted else if x = "sum" then some .sum else if x = "dict" then some .dict else none
theorem snd_pri {x : Str} {es : List Expr} {ts : EL} {p : Pr} (k : COk T C) (h : XOk T C sc gen X) (hg : glC sc x = true) (hx : T.gs.lookup x = some .blt) (hp : prN x = some p) (ha : SndB C X es ts) : SndE C X (.Call (.Name x pp) es [] pos) (.pri p ts) := by
  have hm : X.mg x = none := by rw [h.mg]; exact k.blt x hx
  have gl := gl_of h hg
  obtain ⟨e, r, rfl, n1, n2⟩ := ha.s
  have s1 := star_c (es := r) n1 X.env
  have s2 := back_any (pos := pos) (env := X.env) n2
  unfold prN at hp
  split at hp
  · rename_i hn
    subst hn
    cases hp
    exact snd_esc (t := .pri .len ts) h.K (PE.imp (pe_callB cr_lenA gl hm (by decide +kernel) ha.b (by decide) (by decide) s1 s2) fun σ H Q w => by rw [h.K]; exact tr_cb ok_len (priD_ne .len) w) rfl rfl (fun _ => rfl) rfl
  split at hp
  · rename_i hn
    subst hn
    cases hp
    exact snd_frx (t := .pri .list ts) h.K (PE.imp (pe_callTy cr_listA gl hm (by decide +kernel) ha.b (by decide) (by decide) s1 s2) fun σ H Q w => by rw [h.K]; exact tr_cb ok_list (priD_ne .list) w) rfl (fun _ => rfl) rfl
  split at hp
  · rename_i hn
    subst hn
    cases hp
    exact snd_esc (t := .pri .tuple ts) h.K (PE.imp (pe_callTy cr_tupleA gl hm (by decide +kernel) ha.b (by decide) (by decide) s1 s2) fun σ H Q w => by rw [h.K]; exact tr_cb ok_tuple (priD_ne .tuple) w) rfl rfl (fun _ => rfl) rfl
  split at hp
  · rename_i hn
    subst hn
    cases hp
    exact snd_esc (t := .pri .int ts) h.K (PE.imp (pe_callTy cr_intA gl hm (by decide +kernel) ha.b (by decide) (by decide) s1 s2) fun σ H Q w => tr_cb ok_int (priD_ne .int) w) rfl rfl (fun _ => rfl) rfl
  split at hp
  · rename_i hn
    subst hn
    cases hp
    exact snd_esc (t := .pri .max ts) h.K (PE.imp (pe_callB (cr_maxA h.calm) gl hm (by decide +kernel) ha.b (by decide) (by decide) s1 s2) fun σ H Q w => by rw [h.K]; exact tr_cb ok_max (priD_ne .max) w) rfl rfl (fun _ => rfl) rfl
  split at hp
  · rename_i hn
    subst hn
    cases hp
    exact snd_esc (t := .pri .min ts) h.K (PE.imp (pe_callB (cr_minA h.calm) gl hm (by decide +kernel) ha.b (by decide) (by decide) s1 s2) fun σ H Q w => by rw [h.K]; exact tr_cb ok_min (priD_ne .min) w) rfl rfl (fun _ => rfl) rfl
  split at hp
  · rename_i hn
    subst hn
    cases hp
    exact snd_frx (t := .pri .sorted ts) h.K (PE.imp (pe_callB (cr_srtA h.calm) gl hm (by decide +kernel) ha.b (by decide) (by decide) s1 s2) fun σ H Q w => by rw [h.K]; exact tr_cb ok_sorted (priD_ne .sorted) w) rfl (fun _ => rfl) rfl
  split at hp
  · rename_i hn
    subst hn
    cases hp
    exact snd_esc (t := .pri .sum ts) h.K (PE.imp (pe_callB (cr_sum h.calm) gl hm (by decide +kernel) ha.b (by decide) (by decide) s1 s2) fun σ H Q w => by rw [h.K]; exact tr_cb ok_sum (priD_ne .sum) w) rfl rfl (fun _ => rfl) rfl
  split at hp
  · rename_i hn
    subst hn
    cases hp
    exact snd_frx (t := .pri .dict ts) h.K (PE.imp (pe_callTy (cr_dctA h.calm) gl hm (by decide +kernel) ha.b (by decide) (by decide) s1 s2) fun σ H Q w => by rw [h.K]; exact tr_cb ok_dict (priD_ne .dict) w) rfl (fun _ => rfl) rfl
  · cases hp
def tyOf (x : Str) : Option Ty :=
  if x = "int" then some .int else if x = "bool" then some .bool else if x = "str" then some .str else if x = "tuple" then some .tuple else if x = "list" then some .list else none
theorem pe_ty {x : Str} {t : Ty} (k : COk T C) (h : XOk T C sc gen X) (hg : glC sc x = true) (hx : T.gs.lookup x = some .blt) (ht : tyOf x = some t) : PE X (.Name x pos) (tC (.ty t.nm)) := by
  have hm : X.mg x = none := by rw [h.mg]; exact k.blt x hx
  have gl := gl_of h hg
  unfold tyOf at ht
  split at ht
  · rename_i hn; subst hn; cases ht; exact pe_bltn gl hm (by decide +kernel) rfl (by decide) (by decide)
  split at ht
  · rename_i hn; subst hn; cases ht; exact pe_bltn gl hm (by decide +kernel) rfl (by decide) (by decide)
  split at ht
  · rename_i hn; subst hn; cases ht; exact pe_bltn gl hm (by decide +kernel) rfl (by decide) (by decide)
  split at ht
  · rename_i hn; subst hn; cases ht; exact pe_bltn gl hm (by decide +kernel) rfl (by decide) (by decide)
  split at ht
  · rename_i hn; subst hn; cases ht; exact pe_bltn gl hm (by decide +kernel) rfl (by decide) (by decide)
  · cases ht
theorem snd_isi1 {x : Str} {t : Ty} {p1 : Pos} (k : COk T C) (h : XOk T C sc gen X) (gi : glC sc "isinstance" = true) (bi : T.gs.lookup ("isinstance" : Str) = some .blt) (hg : glC sc x = true) (hx : T.gs.lookup x = some .blt) (ht : tyOf x = some t) (ha : SndE C X a ta) :
    SndE C X (.Call (.Name "isinstance" pp) [a, .Name x p1] [] pos) (.isi ta [t]) :=
  snd_esc (t := .isi ta [t]) h.K (pe_isi1 (p1 := p1) (m := .bor) (by simp) h.K (gl_of h gi) (by rw [h.mg]; exact k.blt _ bi) ha.bor (pe_ty k h hg hx ht) ha.nos rfl) rfl rfl (fun _ => rfl) rfl
theorem snd_isi2 {x y : Str} {t u : Ty} {p1 p2 p3 : Pos} {j : Nat} (k : COk T C) (h : XOk T C sc gen X) (gi : glC sc "isinstance" = true) (bi : T.gs.lookup ("isinstance" : Str) = some .blt) (hg : glC sc x = true) (hx : T.gs.lookup x = some .blt) (ht : tyOf x = some t) (hg2 : glC sc y = true) (hx2 : T.gs.lookup y = some .blt) (ht2 : tyOf y = some u) (ha : SndE C X a ta) :
    SndE C X (.Call (.Name "isinstance" pp) [a, .Tuple [.Name x p1, .Name y p2] j p3] [] pos) (.isi ta [t, u]) :=
  snd_esc (t := .isi ta [t, u]) h.K (pe_isi2 (p1 := p3) (p2 := p1) (m := .bor) (by simp) h.K (gl_of h gi) (by rw [h.mg]; exact k.blt _ bi) ha.bor (pe_ty k h hg hx ht) (pe_ty k h hg2 hx2 ht2) ha.nos rfl rfl) rfl rfl (fun _ => rfl) rfl
/-! #### what is walked -/
/-- a written tuple is taken apart -/
def TgFit (tgE : Expr) (tg : Tg) : Prop := ∀ es j p, tgE = .Tuple es j p → ∃ is, tg = .tp is
structure SndI (C : Cn) (X : Cx) (tgE iter : Expr) (it : Ev.It) (q : Bool) : Prop where
  i : ∀ tg, TgFit tgE tg → PI X tgE iter (tI C it.pur q tg (evI C.call it))
  s : noSet iter = true
def It.bo : Ev.It → Bool
  | .sqb _ => true
  | _ => false
theorem sndi_seq (h : XOk T C sc gen X) (ha : SndE C X a ta) (hs : noSet a = true) : SndI C X tgE a (.seq ta) false := ⟨fun tg _ => pi_seq h.K ha.esc, hs⟩
theorem sndi_sqb {i : Nat} {x : Str} (k : COk T C) (h : XOk T C sc gen X) (hi : T.N[i]? = some x) (hv : visC sc x = true) (hd : dunC x = true) (hc : T.c i ≠ .pl) : SndI C X tgE (.Name x pos) (.sqb i) true := by
  obtain ⟨d1, d2⟩ := dun_of hd
  exact ⟨fun tg _ => pi_sqb (by rw [h.N]; exact hi) (by rw [h.sc]; exact vis_of hv) (by rw [k.cl]; exact hc) d1 d2, rfl⟩
theorem sndi_rng1 (k : COk T C) (h : XOk T C sc gen X) (hg : glC sc "range" = true) (hx : T.gs.lookup ("range" : Str) = some .blt) (ha : SndE C X a ta) : SndI C X tgE (.Call (.Name "range" pp) [a] [] pos) (.rng (.c (.int 0)) ta) false :=
  ⟨fun tg _ => pi_rng1 (gl_of h hg) (by rw [h.mg]; exact k.blt _ hx) ha.esc ha.nos, rfl⟩
theorem sndi_rng2 (k : COk T C) (h : XOk T C sc gen X) (hg : glC sc "range" = true) (hx : T.gs.lookup ("range" : Str) = some .blt) (ha : SndE C X a ta) (hb : SndE C X b tb) : SndI C X tgE (.Call (.Name "range" pp) [a, b] [] pos) (.rng ta tb) false :=
  ⟨fun tg _ => pi_rng (gl_of h hg) (by rw [h.mg]; exact k.blt _ hx) ha.esc hb.esc ha.nos hb.nos, rfl⟩
theorem sndi_rng3 (k : COk T C) (h : XOk T C sc gen X) (hg : glC sc "range" = true) (hx : T.gs.lookup ("range" : Str) = some .blt) (ha : SndE C X a ta) (hb : SndE C X b tb) (hc : SndE C X c tc) : SndI C X tgE (.Call (.Name "range" pp) [a, b, c] [] pos) (.rng3 ta tb tc) false :=
  ⟨fun tg _ => pi_rng3 (gl_of h hg) (by rw [h.mg]; exact k.blt _ hx) ha.esc hb.esc hc.esc ha.nos hb.nos hc.nos, rfl⟩
theorem sndi_zip {elts : List Expr} {kk : Nat} {tpos : Pos} (k : COk T C) (h : XOk T C sc gen X) (hg : glC sc "zip" = true) (hx : T.gs.lookup ("zip" : Str) = some .blt) (ha : SndE C X a ta) (hb : SndE C X b tb) : SndI C X (.Tuple elts kk tpos) (.Call (.Name "zip" pp) [a, b] [] pos) (.zip ta tb) false :=
  ⟨fun tg hf => pi_zp (hf _ _ _ rfl) h.K (gl_of h hg) (by rw [h.mg]; exact k.blt _ hx) ha.esc hb.esc ha.nos hb.nos, rfl⟩
theorem sndi_enm {elts : List Expr} {kk : Nat} {tpos : Pos} (k : COk T C) (h : XOk T C sc gen X) (hg : glC sc "enumerate" = true) (hx : T.gs.lookup ("enumerate" : Str) = some .blt) (ha : SndE C X a ta) : SndI C X (.Tuple elts kk tpos) (.Call (.Name "enumerate" pp) [a] [] pos) (.enm ta) false :=
  ⟨fun tg hf => pi_en (hf _ _ _ rfl) h.K (gl_of h hg) (by rw [h.mg]; exact k.blt _ hx) ha.esc ha.nos, rfl⟩
theorem fold_of {e : Expr} (h : noSet e = true) (env : PySem.Env) (x : Value) : foldedSetIterable e env x = pure x := by
  cases e <;> first | rfl | cases h
def noLst : Expr → Bool
  | .List .. => false
  | _ => true
theorem gfold_of {e : Expr} (h : noSet e = true) (h2 : noLst e = true) (env : PySem.Env) (x : Value) : genFold e env x = pure x := by
  cases e <;> first | (cases h2; done) | (cases h; done) | rfl
/-! #### targets -/
/-- a target's names and slots -/
def nmE (T : TC) : Expr → Option (Str × Nat)
  | .Name x _ => (T.N.findIdx? (· == x)).map fun i => (x, i)
  | _ => none
def nmL (T : TC) : List Expr → Option (List (Str × Nat))
  | [] => some []
  | e :: es => match nmE T e, nmL T es with
    | some p, some r => some (p :: r)
    | _, _ => none
def tgOf (T : TC) : Expr → Option (Tg × List (Str × Nat))
  | .Tuple es _ _ => (nmL T es).map fun l => (.tp (l.map (·.2)), l)
  | e => (nmE T e).map fun p => (.nm p.2, [p])
/-- the names may be stored to -/
def StOk (X : Cx) (l : List (Str × Nat)) : Prop := ∀ p ∈ l, X.N[p.2]? = some p.1 ∧ Loc X.env.scope p.1 ∧ (X.fn p.1 = true ∨ X.env.scope.names.lookup p.1 = some .local)
theorem nmL_ok {K : PySem.W.Frag} (hN : X.N.Nodup) : ∀ {es : List Expr} {l : List (Str × Nat)}, nmL T es = some l → StOk X l → PGs X es (gNs (l.map (·.2))) ∧ (assignEach es X.env).length = l.length ∧ (assignEach es X.env).findIdx? (·.1) = none
  | [], l, h, hs => by
    cases h
    exact ⟨pgs_nil, rfl, rfl⟩
  | e :: es, l, h, hs => by
    unfold nmL at h
    split at h
    · rename_i p r h1 h2
      cases h
      obtain ⟨k1, k2, k3⟩ := nmL_ok (K := K) hN h2 fun q hq => hs q (List.mem_cons_of_mem _ hq)
      obtain ⟨s1, s2, s3⟩ := hs p (by simp)
      unfold nmE at h1
      split at h1
      · rename_i x pos
        cases hf : T.N.findIdx? (· == x) with
        | none => rw [hf] at h1; cases h1
        | some i =>
          rw [hf] at h1
          cases h1
          refine ⟨pgs_cons (pg_name hN s1 s2 s3) k1 rfl, congrArg Nat.succ k2, ?_⟩
          show List.findIdx? (fun x => x.1) ((false, assign (.Name x pos) X.env) :: assignEach es X.env) = none
          rw [List.findIdx?_cons]
          simp only [Bool.false_eq_true, if_false]
          rw [k3] <;> rfl
      · cases h1
    · cases h
theorem tgOf_ok {tgE : Expr} {tg : Tg} {l : List (Str × Nat)} (hc : X.calm = true) (hN : X.N.Nodup) (hK : X.K = C.K) (h : tgOf T tgE = some (tg, l)) (hs : StOk X l) : PG X tgE (tTg C.K tg) ∧ l.map (·.2) = tg.slots := by
  unfold tgOf at h
  split at h
  · rename_i es j pos
    cases hl : nmL T es with
    | none => rw [hl] at h; cases h
    | some l' =>
      rw [hl] at h
      cases h
      obtain ⟨k1, k2, k3⟩ := nmL_ok (K := C.K) hN hl hs
      have q := pg_tup (pos := pos) (k := j) hc k1 (n := (l.map (·.2)).length) (by rw [k2, List.length_map]) k3
      rw [hK] at q
      exact ⟨q, rfl⟩
  · cases hl : nmE T tgE with
    | none => rw [hl] at h; cases h
    | some p =>
      rw [hl] at h
      cases h
      obtain ⟨s1, s2, s3⟩ := hs p (by simp)
      unfold nmE at hl
      split at hl
      · rename_i x pos _
        cases hf : T.N.findIdx? (· == x) with
        | none => rw [hf] at hl; cases hl
        | some i =>
          rw [hf] at hl
          cases hl
          exact ⟨pg_name hN s1 s2 s3, rfl⟩
      · cases hl
theorem tgOf_slots {tgE : Expr} {tg : Tg} {l : List (Str × Nat)} (h : tgOf T tgE = some (tg, l)) : l.map (·.2) = tg.slots := by
  unfold tgOf at h
  split at h
  · rename_i es j pos
    cases hl : nmL T es with
    | none => rw [hl] at h; cases h
    | some l' => rw [hl] at h; cases h; rfl
  · cases hl : nmE T tgE with
    | none => rw [hl] at h; cases h
    | some p => rw [hl] at h; cases h; rfl
theorem tgFit {tgE : Expr} {tg : Tg} {l : List (Str × Nat)} (h : tgOf T tgE = some (tg, l)) : TgFit tgE tg := by
  intro es j p e
  subst e
  unfold tgOf at h
  dsimp only at h
  cases hl : nmL T es with
  | none => rw [hl] at h; cases h
  | some l' => rw [hl] at h; cases h; exact ⟨_, rfl⟩
/-! #### a block's scope -/
theorem relS_lookup {x : Str} {k : NameKind} {g : Str → NameKind → Bool} (hk : k ≠ .free) (hg : ∀ n k, g n k = true → k = .free) : ∀ {l : List (Str × NameKind)}, l.lookup x = some k → (l.map fun (n, k) => if g n k = true then (n, NameKind.cell) else (n, k)).lookup x = some k
  | [], h => by cases h
  | (n, k') :: r, h => by
    have ih := @relS_lookup x k g hk hg r
    rw [List.lookup_cons] at h
    show List.lookup x ((if g n k' = true then (n, NameKind.cell) else (n, k')) :: _) = _
    by_cases hn : x == n
    · rw [hn] at h
      have h : k' = k := Option.some.inj h
      have hg' : ¬ g n k' = true := fun z => hk (by rw [← h]; exact hg _ _ z)
      rw [if_neg hg', List.lookup_cons, hn]
      exact congrArg some h
    · have hn : (x == n) = false := by simpa using hn
      rw [hn] at h
      by_cases hg' : g n k' = true
      · rw [if_pos hg', List.lookup_cons, hn]; exact ih h
      · rw [if_neg hg', List.lookup_cons, hn]; exact ih h
def ownC (T : TC) (scope : Scope) (l : List (Str × Nat)) : Bool := l.all fun p => decide (T.N[p.2]? = some p.1) && (decide (T.c p.2 = .pl) && (decide (scope.names.lookup p.1 = some .local) || decide (scope.names.lookup p.1 = some .cell)))
def blkC (T : TC) (sc scope : Scope) (l : List (Str × Nat)) : Bool :=
  decide (scope.kind = .function) && (scope.names.all fun y => decide (scope.names.lookup y.1 = some y.2) && ((!decide (y.2 = .free) || (decide (sc.names.lookup y.1 = some .cell) || decide (sc.names.lookup y.1 = some .free))) && (!(decide (y.2 = .local) || decide (y.2 = .cell)) || (decide (y.1 ∈ l.map (·.1)) || !decide (y.1 ∈ T.N)))))
theorem blk_of {l : List (Str × Nat)} (h : XOk T C sc gen X) (h1 : blkC T sc scope l = true) (h2 : ownC T scope l = true) : BlkOk X.N X.env.scope scope l := by
  unfold blkC at h1
  rw [Bool.and_eq_true] at h1
  obtain ⟨k1, k2⟩ := h1
  have k2 := List.all_eq_true.mp k2
  refine ⟨of_decide_eq_true k1, fun y hy => ?_, fun p hp => ?_, fun y hy hf => ?_, fun y hy hf => ?_⟩
  · have q := k2 y hy
    rw [Bool.and_eq_true] at q
    exact of_decide_eq_true q.1
  · have q := List.all_eq_true.mp h2 p hp
    rw [Bool.and_eq_true] at q
    rw [h.N]
    exact of_decide_eq_true q.1
  · have q := k2 y hy
    rw [Bool.and_eq_true, Bool.and_eq_true] at q
    rw [h.sc]
    have q := q.2.1
    rw [hf] at q
    simpa using q
  · have q := k2 y hy
    rw [Bool.and_eq_true, Bool.and_eq_true] at q
    rw [h.N]
    have q := q.2.2
    rcases hf with hf | hf <;> rw [hf] at q <;> simpa using q
theorem st_blk {l : List (Str × Nat)} (h : XOk T C sc gen X) (h2 : ownC T scope l = true) (s : Shared) (H : Hp) (cA : Addr) (cl : List (Str × Addr)) (fp : List Addr) : StOk (X.blk s H scope (compEnvC scope cl cA X.env) fp) l := by
  intro p hp
  have q := List.all_eq_true.mp h2 p hp
  rw [Bool.and_eq_true, Bool.and_eq_true] at q
  have q1 := of_decide_eq_true q.1
  refine ⟨by show X.N[p.2]? = _; rw [h.N]; exact q1, ?_⟩
  have q2 := q.2.2
  rw [Bool.or_eq_true, decide_eq_true_eq, decide_eq_true_eq] at q2
  have look : ∀ k : NameKind, k ≠ .free → scope.names.lookup p.1 = some k → (compEnvC scope cl cA X.env).scope.names.lookup p.1 = some k := fun k hk e =>
    relS_lookup (g := fun n k => k == NameKind.free && X.env.scope.kind == .function && X.env.kindOf n == some .cell) hk (fun n k z => by
      rw [Bool.and_eq_true, Bool.and_eq_true] at z
      exact beq_iff_eq.mp z.1.1) e
  rcases q2 with q2 | q2
  · exact ⟨.inl (look _ (by decide) q2), .inr (look _ (by decide) q2)⟩
  · exact ⟨.inr (look _ (by decide) q2), .inl (by show (scope.names.lookup p.1 == some .cell) = true; rw [q2]; decide)⟩
theorem own_pl {l : List (Str × Nat)} {tg : Tg} (k : COk T C) (h2 : ownC T scope l = true) (hs : l.map (·.2) = tg.slots) : (∀ i ∈ tg.slots, C.cl i = .pl) ∧ (∀ i ∈ tg.slots, i < C.N.length) := by
  have row : ∀ i ∈ tg.slots, C.cl i = .pl ∧ i < C.N.length := fun i hi => by
    rw [← hs] at hi
    obtain ⟨p, hp, rfl⟩ := List.mem_map.mp hi
    have q := List.all_eq_true.mp h2 p hp
    rw [Bool.and_eq_true, Bool.and_eq_true] at q
    have q1 := of_decide_eq_true q.1
    exact ⟨by rw [k.cl]; exact of_decide_eq_true q.2.1, by rw [k.N]; exact (List.getElem?_eq_some_iff.mp q1).1⟩
  exact ⟨fun i hi => (row i hi).1, fun i hi => (row i hi).2⟩
/-! #### comprehensions -/
structure SndT (C : Cn) (X : Cx) (ifs : List Expr) (ts : EL) : Prop where
  t : PTs X ifs (tB C ts.pur (evC C.call ts))
theorem sndt_nil : SndT C X [] .nil := ⟨ptsB_nil⟩
theorem sndt_one (ha : SndE C X a ta) : SndT C X [a] (.cons ta .nil) := ⟨by
  have k := ptsB_one ha.tst
  rw [show (EL.cons ta .nil).pur = ta.pur from Bool.and_true _]
  exact k⟩
theorem snd_lc {elt iter : Expr} {ifs : List Expr} {l : List (Str × Nat)} {tg : Tg} {it : Ev.It} {q : Bool} {tcs : EL} {te : E} (k : COk T C) (h : XOk T C sc gen X) (htg : tgOf T tgE = some (tg, l)) (hb : blkC T sc scope l = true) (ho : ownC T scope l = true) (hi : SndI C X tgE iter it q) (hq : (!q || (tcs.pur && te.pur)) = true)
    (ht : ∀ X', XOk T C.cut (relS scope sc) gen X' → SndT C.cut X' ifs tcs) (he : ∀ X', XOk T C.cut (relS scope sc) gen X' → SndE C.cut X' elt te) : SndE C X (.ListComp elt [⟨tgE, iter, ifs, 0⟩] scope pos) (.lc tg it tcs te) := by
  have hs := tgOf_slots htg
  obtain ⟨p1, p2⟩ := own_pl (C := C) k ho hs
  exact snd_frx (t := .lc tg it tcs te) h.K (pe_lcA (q := q) (fun z => by rw [z] at hq; simpa using hq) h.calm (by rw [h.N]; exact k.nd) p1 p2 hs (blk_of h hb ho) (hi.i tg (tgFit htg))
    (fun s H cA cl fp => (tgOf_ok (X := X.blk s H scope (compEnvC scope cl cA X.env) fp) h.calm (by show X.N.Nodup; rw [h.N]; exact k.nd) h.K htg (st_blk h ho s H cA cl fp)).1) (fun s H cA cl fp => (ht _ (h.blk k s H cA cl fp)).t) (fun s H cA cl fp => (he _ (h.blk k s H cA cl fp)).esc) (fold_of hi.s _)) rfl (fun _ => rfl) rfl
/-- its rule as a store's -/
theorem lc_parts {elt iter : Expr} {ifs : List Expr} {l : List (Str × Nat)} {tg : Tg} {it : Ev.It} {q : Bool} {tcs : EL} {te : E} (k : COk T C) (h : XOk T C sc gen X) (htg : tgOf T tgE = some (tg, l)) (hb : blkC T sc scope l = true) (ho : ownC T scope l = true) (hi : SndI C X tgE iter it q) (hq : (!q || (tcs.pur && te.pur)) = true)
    (ht : ∀ X', XOk T C.cut (relS scope sc) gen X' → SndT C.cut X' ifs tcs) (he : ∀ X', XOk T C.cut (relS scope sc) gen X' → SndE C.cut X' elt te) {i : Nat} {y : Str} {py spos : Pos} (hy : X.N[i]? = some y) (hyl : X.env.scope.names.lookup y = some .local)
    (hsw : swapsWith (.ListComp elt [⟨tgE, iter, ifs, 0⟩] scope pos) (some (.Name y py)) spos.line X.env = pure true) :
    ∃ te' : TE, PS X (.Assign [.Name y py] (.ListComp elt [⟨tgE, iter, ifs, 0⟩] scope pos) spos) (tAsg te' (gName i)) ∧ ∀ σ H Q, tR C (E.lc tg it tcs te).pur .frx (ev C.call (.lc tg it tcs te) .esc) σ H Q → te' σ H Q := by
  have hs := tgOf_slots htg
  obtain ⟨p1, p2⟩ := own_pl (C := C) k ho hs
  refine ⟨_, ps_setLc h.calm (by rw [h.N]; exact k.nd) hy hyl hsw (hi.i tg (tgFit htg)) (blk_of h hb ho)
    (fun s H cA cl fp => (tgOf_ok (X := X.blk s H scope (compEnvC scope cl cA X.env) fp) h.calm (by show X.N.Nodup; rw [h.N]; exact k.nd) h.K htg (st_blk h ho s H cA cl fp)).1) (fun s H cA cl fp => (ht _ (h.blk k s H cA cl fp)).t) (fun s H cA cl fp => (he _ (h.blk k s H cA cl fp)).esc) (fold_of hi.s _), fun σ H Q w => ?_⟩
  rw [hs]
  exact lc_imp (fun z => by rw [z] at hq; simpa using hq) p1 p2 w
theorem snd_dc {kx vx iter : Expr} {ifs : List Expr} {l : List (Str × Nat)} {tg : Tg} {it : Ev.It} {q : Bool} {tcs : EL} {tk te : E} (k : COk T C) (h : XOk T C sc gen X) (htg : tgOf T tgE = some (tg, l)) (hb : blkC T sc scope l = true) (ho : ownC T scope l = true) (hi : SndI C X tgE iter it q) (hq : (!q || (tcs.pur && (tk.pur && te.pur))) = true)
    (ht : ∀ X', XOk T C.cut (relS scope sc) gen X' → SndT C.cut X' ifs tcs) (hk : ∀ X', XOk T C.cut (relS scope sc) gen X' → SndE C.cut X' kx tk) (he : ∀ X', XOk T C.cut (relS scope sc) gen X' → SndE C.cut X' vx te) : SndE C X (.DictComp kx vx [⟨tgE, iter, ifs, 0⟩] scope pos) (.dc tg it tcs tk te) := by
  have hs := tgOf_slots htg
  obtain ⟨p1, p2⟩ := own_pl (C := C) k ho hs
  exact snd_frx (t := .dc tg it tcs tk te) h.K (pe_dcA (q := q) (fun z => by rw [z] at hq; simpa using hq) h.calm (by rw [h.N]; exact k.nd) p1 p2 hs (blk_of h hb ho) (hi.i tg (tgFit htg))
    (fun s H cA cl fp => (tgOf_ok (X := X.blk s H scope (compEnvC scope cl cA X.env) fp) h.calm (by show X.N.Nodup; rw [h.N]; exact k.nd) h.K htg (st_blk h ho s H cA cl fp)).1) (fun s H cA cl fp => (ht _ (h.blk k s H cA cl fp)).t) (fun s H cA cl fp => (hk _ (h.blk k s H cA cl fp)).esc) (fun s H cA cl fp => (he _ (h.blk k s H cA cl fp)).esc) (fold_of hi.s _)) rfl (fun _ => rfl) rfl
theorem dc_parts {kx vx iter : Expr} {ifs : List Expr} {l : List (Str × Nat)} {tg : Tg} {it : Ev.It} {q : Bool} {tcs : EL} {tk te : E} (k : COk T C) (h : XOk T C sc gen X) (htg : tgOf T tgE = some (tg, l)) (hb : blkC T sc scope l = true) (ho : ownC T scope l = true) (hi : SndI C X tgE iter it q) (hq : (!q || (tcs.pur && (tk.pur && te.pur))) = true)
    (ht : ∀ X', XOk T C.cut (relS scope sc) gen X' → SndT C.cut X' ifs tcs) (hk : ∀ X', XOk T C.cut (relS scope sc) gen X' → SndE C.cut X' kx tk) (he : ∀ X', XOk T C.cut (relS scope sc) gen X' → SndE C.cut X' vx te) {i : Nat} {y : Str} {py spos : Pos} (hy : X.N[i]? = some y) (hyl : X.env.scope.names.lookup y = some .local)
    (hsw : swapsWith (.DictComp kx vx [⟨tgE, iter, ifs, 0⟩] scope pos) (some (.Name y py)) spos.line X.env = pure true) :
    ∃ te' : TE, PS X (.Assign [.Name y py] (.DictComp kx vx [⟨tgE, iter, ifs, 0⟩] scope pos) spos) (tAsg te' (gName i)) ∧ ∀ σ H Q, tR C (E.dc tg it tcs tk te).pur .frx (ev C.call (.dc tg it tcs tk te) .esc) σ H Q → te' σ H Q := by
  have hs := tgOf_slots htg
  obtain ⟨p1, p2⟩ := own_pl (C := C) k ho hs
  refine ⟨_, PT.ps_setDc h.calm (by rw [h.N]; exact k.nd) hy hyl hsw (hi.i tg (tgFit htg)) (blk_of h hb ho)
    (fun s H cA cl fp => (tgOf_ok (X := X.blk s H scope (compEnvC scope cl cA X.env) fp) h.calm (by show X.N.Nodup; rw [h.N]; exact k.nd) h.K htg (st_blk h ho s H cA cl fp)).1) (fun s H cA cl fp => (ht _ (h.blk k s H cA cl fp)).t) (fun s H cA cl fp => (hk _ (h.blk k s H cA cl fp)).esc) (fun s H cA cl fp => (he _ (h.blk k s H cA cl fp)).esc) (fold_of hi.s _), fun σ H Q w => ?_⟩
  rw [hs]
  exact dc_imp (fun z => by rw [z] at hq; simpa using hq) p1 p2 w
def genC (T : TC) (scope : Scope) (l : List (Str × Nat)) : Bool := (l.all fun p => decide (scope.names.lookup p.1 = some .local)) && ((scope.names.all fun y => !decide (y.2 = .cell)) && (decide (scope.names.lookup (".0" : Str) = some NameKind.local) && !scope.isCoroutine))
theorem snd_gen {elt iter : Expr} {ifs : List Expr} {l : List (Str × Nat)} {tg : Tg} {it : Ev.It} {q all : Bool} {tcs : EL} {te : E} {x : Str} {gpos : Pos} (k : COk T C) (h : XOk T C sc true X) (hlam : T.lam = false) (hx : x = if all = true then "all" else "any") (hg : glC sc x = true) (hbt : T.gs.lookup x = some .blt)
    (htg : tgOf T tgE = some (tg, l)) (hb : blkC T sc scope l = true) (ho : ownC T scope l = true) (hgc : genC T scope l = true) (hi : SndI C X tgE iter it q) (hl : noLst iter = true) (hq : (!q || (tcs.pur && te.pur)) = true)
    (ht : ∀ X', XOk T C.cut scope false X' → SndT C.cut X' ifs tcs) (he : ∀ X', XOk T C.cut scope false X' → SndE C.cut X' elt te) : SndE C X (.Call (.Name x pp) [.GeneratorExp elt [⟨tgE, iter, ifs, 0⟩] scope gpos] [] pos) (.gen all tg it tcs te) := by
  unfold genC at hgc
  rw [Bool.and_eq_true, Bool.and_eq_true, Bool.and_eq_true] at hgc
  obtain ⟨g1, g2, g3, g4⟩ := hgc
  have g1 := List.all_eq_true.mp g1
  have g2 := List.all_eq_true.mp g2
  have g3 := of_decide_eq_true g3
  have st : ∀ (A' : Around) (s : Shared) (H : Hp) (c : Addr) (code : Value) (fp : List Addr) (pn : List (Addr × Obj)), StOk (Gx.gblk X A' s H (genEnv scope (cloFrom X.env.cells scope.names []) c code builtinsNs X.env) fp pn) l := fun A' s H c code fp pn p hp => by
    have q := List.all_eq_true.mp ho p hp
    rw [Bool.and_eq_true] at q
    have q1 := of_decide_eq_true q.1
    have q2 := of_decide_eq_true (g1 p hp)
    exact ⟨by show X.N[p.2]? = _; rw [h.N]; exact q1, .inl q2, .inr q2⟩
  have nd : X.N.Nodup := by rw [h.N]; exact k.nd
  have hs := tgOf_slots htg
  obtain ⟨p1, p2⟩ := own_pl (C := C) k ho hs
  obtain ⟨cA, P, e1, e2, e3⟩ := h.code rfl
  rw [hlam] at e2
  simp only [Bool.false_eq_true, if_false] at e2
  have e2u : ∀ p ∈ C.tabs, p.1 = P → p.2 = none := fun p hp hq => k.tbu p hp (P, none) e2 hq
  have hm : X.mg x = none := by rw [h.mg]; exact k.blt x hbt
  have gl := gl_of h hg
  have hc : ∀ y ∈ scope.names, y.2 ≠ .cell := fun y hy z => by have := g2 y hy; rw [z] at this; cases this
  have hq' : q = true → (tcs.pur && te.pur) = true := fun z => by rw [z] at hq; simpa using hq
  have room : Room (C.lev + 1) X.A := h.room.mono (by rw [if_pos rfl]; omega)
  have rd : ∀ σ H Q, tR C (E.gen all tg it tcs te).pur .esc (ev C.call (.gen all tg it tcs te) .esc) σ H Q → Gx.tGen P gpos (tI C it.pur q tg (evI C.call it)) (tTg C.K tg) (tB C.cut tcs.pur (evC C.call tcs)) (tR C.cut te.pur .esc (ev C.call te .esc)) (l.map (·.2)) all σ H Q := fun σ H Q w => by
    rw [hs]
    exact gen_imp hq' e2 e2u p1 p2 w
  cases all with
  | true =>
    have hx : x = "all" := hx
    subst hx
    exact snd_esc (t := .gen true tg it tcs te) h.K (PE.imp (Gx.pe_allG room h.calm nd gl hm e3 e1 (blk_of h hb ho) hc g3 (by simpa using g4) (hi.i tg (tgFit htg)) (fun A' s H c code fp pn => (tgOf_ok (X := Gx.gblk X A' s H (genEnv scope (cloFrom X.env.cells scope.names []) c code builtinsNs X.env) fp pn) h.calm nd h.K htg (st A' s H c code fp pn)).1) (fun A' s H c code fp pn hr => (ht _ (h.gb k A' s H c code fp pn hr)).t) (fun A' s H c code fp pn hr => (he _ (h.gb k A' s H c code fp pn hr)).esc) (gfold_of hi.s hl _)) rd) rfl rfl (fun _ => rfl) rfl
  | false =>
    have hx : x = "any" := hx
    subst hx
    exact snd_esc (t := .gen false tg it tcs te) h.K (PE.imp (Gx.pe_anyG room h.calm nd gl hm e3 e1 (blk_of h hb ho) hc g3 (by simpa using g4) (hi.i tg (tgFit htg)) (fun A' s H c code fp pn => (tgOf_ok (X := Gx.gblk X A' s H (genEnv scope (cloFrom X.env.cells scope.names []) c code builtinsNs X.env) fp pn) h.calm nd h.K htg (st A' s H c code fp pn)).1) (fun A' s H c code fp pn hr => (ht _ (h.gb k A' s H c code fp pn hr)).t) (fun A' s H c code fp pn hr => (he _ (h.gb k A' s H c code fp pn hr)).esc) (gfold_of hi.s hl _)) rd) rfl rfl (fun _ => rfl) rfl
/-- told: x(lambda: body) -/
theorem snd_tld {x : Str} {val : Bool} {ws : List (Str × Bool)} {body : Expr} {te : E} {pp lpos pos : Pos} (k : COk T C) (h : XOk T C sc true X) (hlam : T.lam = true) (hg : glC sc x = true) (hd : dunC x = true) (hx : T.gs.lookup x = some (.tld val ws)) (hw : ws.all (fun p => PyData.strOk p.1) = true)
    (L : LamX.LamS sc scope) (hp : te.pur = true)
    (he : ∀ (C' : Cn) (X' : Cx), COk T C' → XOk T C' scope false X' → SndE C' X' body te) : SndE C X (.Call (.Name x pp) [.Lambda ⟨[], [], none, [], [], none, []⟩ body scope lpos] [] pos) (.tld val ws te) := by
  obtain ⟨cA, P, e1, e2, e3⟩ := h.code rfl
  rw [if_pos hlam] at e2
  obtain ⟨a, g, pg, bg, sg, dV, kV, doc, pm, cdv, ct, oc, an, od, osl, Ng, m1, m2, m3, m4, m5, m6, m7, m8, m9, m10, hG⟩ := k.tld x val ws hx
  have room : Room (C.lev + 2) X.A := h.room
  have key := PT.pe_lamP (X := X) (TT := TTold C val ws) (x := x) (a := a) (g := g) (c := cA) (P := P) (k := C.lev) (params := ⟨[], [], none, [], [], none, []⟩) (body := body) (scope := scope) (t := fun E => tR { C with W := E } te.pur .esc (ev C.call te .esc)) (p := pp) (lpos := lpos) (pos := pos)
    (gl_of h hg) (by rw [h.mg]; exact m1) (by rw [h.K]; exact m2) (by rw [h.K]; exact m3) (by rw [h.K]; exact m4) (by rw [h.K]; exact m5) m6 m7 m8 (hG X _ h.prog h.w h.K h.mg h.base) ⟨e3.code, e3.bm, e3.gP⟩ e1 room (by rw [h.sc]; exact L)
    rfl (fun q cl pm cv ctv => rfl)
    (fun A outer s H E f c' hr => (he { C with W := E } (LamX.lamCx X A outer s H E scope f c') (k.withW E) ⟨h.prog, h.w, h.K, h.mg, h.base, h.N, rfl, rfl, hr, fun z => absurd z (by decide), fun pins σ H0 s0 e s' I z => by
      have z : C.cx (LamX.lamCx X A outer s H E scope f c').stack H0 s0 E e s' := z
      rw [k.cx, ← h.prog, ← h.w] at z
      exact passes_call (X := LamX.lamCx X A outer s H E scope f c') (W := fun cls d _ H => E cls d H) (takes_of rfl rfl rfl rfl) (fun _ _ _ _ z => z) pins σ H0 s0 e s' I z⟩).esc) (dun_of hd).1 m9 m10
  refine snd_esc (t := .tld val ws te) h.K (PE.imp key fun σ H Q w => ?_) rfl rfl (fun _ => rfl) rfl
  obtain ⟨N, G, ε, F, w⟩ := w
  have tb := F.tab (P, some (X.env.qual ++ "<lambda>")) e2
  refine ⟨tb, fun H1 ep t1 => ?_⟩
  obtain ⟨ps, hP, _⟩ := id tb
  obtain ⟨ps1, hP1, _⟩ := id t1
  have g0 : Go C.tabs (fun _ => False) G H G H1 := by
    refine ⟨Sub.refl _, fun b h => .inl h, fun b u e _ t => ep b u (fun z => by rw [z, hP] at e; exact t ps (Option.some.inj e).symm) e, fun b qs e => ?_, fun p m t => ?_, fun b hb => ?_⟩
    · by_cases hb : b = P
      · exact ⟨ps1, by rw [hb]; exact hP1⟩
      · exact ⟨qs, ep b _ hb e⟩
    · by_cases hb : p.1 = P
      · have q := k.tbu p m (P, some (X.env.qual ++ "<lambda>")) e2 hb
        obtain ⟨P', q'⟩ := p
        have hb : P' = P := hb
        have q : q' = some (X.env.qual ++ "<lambda>") := q
        subst hb q
        exact t1
      · exact t.keep (fun qs e => ep _ _ hb e) fun d q e => ep d _ (fun z => by
          rw [z, hP] at e
          obtain ⟨φ, e'⟩ := codeO_isX P q
          rw [e'] at e
          cases e) e
    · by_cases hz : b = P
      · rw [hz, hP1]; simp
      · cases q : H b with
        | none => exact absurd q hb
        | some u => rw [ep b u hz q]; simp
  have gN : ∀ b u, G b = some u → b ≠ P := fun b u e z => by
    have := F.sub b u e
    rw [z, hP] at this
    cases this
    exact F.ntb b _ e
  have F1 : Fr C N G H1 ε σ := F.step g0 (fun b u e => ep b u (gN b u e) (F.sub b u e)) F.ntb
  refine ⟨N, G, ε, F1.withW _, ?_⟩
  simp only [ev] at w
  have hpu : (E.tld val ws te).pur = true := hp
  rw [hpu] at w
  cases hv : ev C.call te .esc ε with
  | no => rw [hv] at w; exact w.elim
  | ok p =>
    rw [hv] at w
    intro G' H' F' g' v r
    rw [hp] at g'
    have g2 : Go C.tabs (fun _ => False) G H1 G' H' := g'.weak fun b z => z.true_
    have F2 : Fr C N G' H' ε σ := F1.step g2 F'.sub F'.ntb
    refine w G' H' F2 ((g0.trans g2).weak fun b z => z.elim) _ ?_
    cases val with
    | true => exact r
    | false => exact rfl
  | er c y =>
    rw [hv] at w
    intro G' H' cls dd g' hex
    rw [hp] at g'
    have g2 : Go C.tabs (fun _ => False) G H1 G' H' := g'.weak fun b z => z.true_
    refine ⟨c, y, hex, fun H2 hx2 => ?_⟩
    have g3 : Go C.tabs (fun _ => False) G H1 G H2 := ⟨Sub.refl _, fun b h => .inl h, fun b u e m t => hx2 b u (g2.keep b u e m t), fun b ps e => let ⟨ps', e'⟩ := g2.tbl b ps e; ⟨ps', hx2 b _ e'⟩, fun p m t => (g2.tabg p m t).keep (fun ps e => hx2 _ _ e) fun c q e => hx2 _ _ e, fun b hb => by
      cases q : H' b with
      | none => exact absurd q (g2.dom b hb)
      | some u => rw [hx2 b u q]; simp⟩
    have F2 : Fr C N G H2 ε σ := F1.step g3 (fun b u e => hx2 b u (g2.keep b u (F1.sub b u e) (fun z => z) fun ps z => F1.ntb b ps (by rw [← z]; exact e))) F1.ntb
    have hs : ∀ s b, ws[c]? = some (s, b) → PyData.strOk s = true := fun s b z => List.all_eq_true.mp hw (s, b) (List.mem_of_getElem? z)
    unfold Said
    unfold wordD at w
    dsimp only at w
    cases hq : ws[c]? with
    | none => rw [hq] at w; exact w.elim
    | some sb =>
      obtain ⟨s, b⟩ := sb
      rw [hq] at w
      cases b with
      | false => exact w G H2 F2 ((g0.trans g3).weak fun b z => z.elim) _ ⟨rfl, hs s false hq⟩
      | true =>
        obtain ⟨v, im⟩ := k.imm _ _ _ _ _ hex
        refine ⟨v, im, fun p o hp1 hd1 => ?_⟩
        obtain ⟨F3, g4⟩ := F2.new (o := .frz o (.tup [.str s, v])) hp1 (fun ps z => by cases z)
        refine w _ _ F3 (((g0.trans g3).trans g4).weak fun b z => z.elim) _ ⟨p, [.str s, v], rfl, ⟨o, hd1, upd_same⟩, .str s, [v], rfl, ⟨rfl, hs s true hq⟩, v, [], rfl, ?_, rfl⟩
        cases im with
        | non => exact rfl
        | int i => exact rfl
end
end Ev
/-! ### the translation -/
namespace Ev
open PySem PySem.Spec PyProof.Rows L2
theorem bk_of {env : PySem.Env} (h : env.scope.kind = .function) : env.blockKind = .function := by unfold PySem.Env.blockKind; rw [h]; rfl
theorem ed2 {x y : Str} (hn : (x == y) = false) : ([x, y] : List Str).eraseDups = [x, y] := by
  have hn2 : (y == x) = false := by
    cases h : (y == x) with
    | false => rfl
    | true => rw [eq_of_beq h] at hn; simp at hn
  simp [List.eraseDups, List.eraseDupsBy, List.eraseDupsBy.loop, hn, hn2]
theorem ed3 {x y z : Str} (hxy : (x == y) = false) (hxz : (x == z) = false) (hyz : (y == z) = false) : ([x, y, z] : List Str).eraseDups = [x, y, z] := by
  have sw : ∀ {a b : Str}, (a == b) = false → (b == a) = false := fun {a b} hn => by
    cases h : (b == a) with
    | false => rfl
    | true => rw [eq_of_beq h] at hn; simp at hn
  simp [List.eraseDups, List.eraseDupsBy, List.eraseDupsBy.loop, hxy, hxz, hyz, sw hxy, sw hxz, sw hyz]
theorem sw_two {env : PySem.Env} {x y : Str} {px py pt pt2 : Pos} {kt k2 : Nat} {a b : Expr} (hk : env.scope.kind = .function) (hx : env.kindOf x = some .local) (hy : env.kindOf y = some .local) (hl : (py.line == px.line) = true) (hn : (x == y) = false)
    (na : nost a = true) (nb : nost b = true) (hf : ([a, b].all (foldedForSure 8)) = false) (hc : ([a, b].all (constantsAlone 8)) = false) : swappedStores [.Tuple [.Name x px, .Name y py] kt pt] (.Tuple [a, b] k2 pt2) env = pure (some [x, y]) := by
  have bk := bk_of hk
  have l1 : (px.line == (Expr.Name x px).pos.line) = true := beq_self_eq_true _
  have l2 : (py.line == (Expr.Name x px).pos.line) = true := hl
  unfold swappedStores
  simp only [bk, hx, hy, List.filterMap_cons, List.filterMap_nil, List.length_cons, List.length_nil, List.head?_cons, Option.map_some, Option.getD_some, l1, l2, beq_self_eq_true, Bool.and_self, if_true, ed2 hn]
  refine (if_neg (by decide)).trans ((if_neg ?_).trans ((if_neg (by decide)).trans ((if_neg (by rw [hf]; decide)).trans (if_neg (by rw [hc]; decide)))))
  cases a <;> first | (cases na; done) | (cases b <;> first | (cases nb; done) | (intro h; cases h))
theorem sw_three {env : PySem.Env} {x y z : Str} {px py pz pt pt2 : Pos} {kt k2 : Nat} {a b c : Expr} (hk : env.scope.kind = .function) (hx : env.kindOf x = some .local) (hy : env.kindOf y = some .local) (hz : env.kindOf z = some .local) (hl : (py.line == px.line) = true) (hl2 : (pz.line == px.line) = true) (hxy : (x == y) = false) (hxz : (x == z) = false) (hyz : (y == z) = false)
    (na : nost a = true) (nb : nost b = true) (nc : nost c = true) (hf : ([a, b, c].all (foldedForSure 8)) = false) (hc : ([a, b, c].all (constantsAlone 8)) = false) : swappedStores [.Tuple [.Name x px, .Name y py, .Name z pz] kt pt] (.Tuple [a, b, c] k2 pt2) env = pure (some [x, y, z]) := by
  have bk := bk_of hk
  have l1 : (px.line == (Expr.Name x px).pos.line) = true := beq_self_eq_true _
  have l2 : (py.line == (Expr.Name x px).pos.line) = true := hl
  have l3 : (pz.line == (Expr.Name x px).pos.line) = true := hl2
  unfold swappedStores
  simp only [bk, hx, hy, hz, List.filterMap_cons, List.filterMap_nil, List.length_cons, List.length_nil, List.head?_cons, Option.map_some, Option.getD_some, l1, l2, l3, beq_self_eq_true, Bool.and_self, if_true, ed3 hxy hxz hyz]
  refine (if_neg (by decide)).trans ((if_neg ?_).trans ((if_neg (by decide)).trans ((if_neg (by rw [hf]; decide)).trans (if_neg (by rw [hc]; decide)))))
  intro h
  simp only [List.any_cons, List.any_nil, Bool.or_false, Bool.or_eq_true] at h
  rcases h with h | h | h
  · cases a <;> first | (cases na; done) | cases h
  · cases b <;> first | (cases nb; done) | cases h
  · cases c <;> first | (cases nc; done) | cases h
theorem sw_folded {env : PySem.Env} {ts vs : List Expr} {kt k2 : Nat} {pt pt2 : Pos} (hf : vs.all (foldedForSure 8) = true) : swappedStores [.Tuple ts kt pt] (.Tuple vs k2 pt2) env = pure none := by
  unfold swappedStores
  simp only [hf]
  split
  · rfl
  · split
    · rfl
    · split <;> rfl
/-- more or fewer than two, three -/
theorem sw_many {env : PySem.Env} {ts vs : List Expr} {kt k2 : Nat} {pt pt2 : Pos} (hl : (ts.length == 2 || ts.length == 3) = false) : swappedStores [.Tuple ts kt pt] (.Tuple vs k2 pt2) env = pure none := by
  unfold swappedStores
  simp only [hl]
  rfl
/-- a captured name among them -/
theorem sw_cell {env : PySem.Env} {ts vs : List Expr} {kt k2 : Nat} {pt pt2 : Pos} (hl : ((ts.filterMap fun | .Name id pos => if env.kindOf id == some .local && pos.line == ((ts.head?.map (·.pos.line)).getD 0) then some id else none | _ => none).length != ts.length) = true) : swappedStores [.Tuple ts kt pt] (.Tuple vs k2 pt2) env = pure none := by
  unfold swappedStores
  dsimp only
  split
  · rfl
  · split
    · rfl
    · refine (if_pos ?_)
      rw [Bool.or_eq_true]
      exact .inl hl
structure TrE (T : TC) (sc : Scope) (gen : Bool) (e : Expr) where
  t : E
  ok : ∀ (C : Cn) (X : Cx), COk T C → XOk T C sc gen X → SndE C X e t
structure TrL (T : TC) (sc : Scope) (gen : Bool) (es : List Expr) where
  t : EL
  ok : ∀ (C : Cn) (X : Cx), COk T C → XOk T C sc gen X → SndL C X es t
structure TrA (T : TC) (sc : Scope) (gen : Bool) (es : List Expr) where
  t : EL
  ok : ∀ (C : Cn) (X : Cx), COk T C → XOk T C sc gen X → SndA C X es t
structure TrB (T : TC) (sc : Scope) (gen : Bool) (es : List Expr) where
  t : EL
  ok : ∀ (C : Cn) (X : Cx), COk T C → XOk T C sc gen X → SndB C X es t
structure TrT (T : TC) (sc : Scope) (gen : Bool) (es : List Expr) where
  t : EL
  ok : ∀ (C : Cn) (X : Cx), COk T C → XOk T C sc gen X → SndT C X es t
structure TrAll (T : TC) (sc : Scope) (gen : Bool) (es : List Expr) where
  t : List E
  ok : ∀ (C : Cn) (X : Cx), COk T C → XOk T C sc gen X → AllE C X es t
structure TrO (T : TC) (sc : Scope) (gen : Bool) (o : Option Expr) where
  t : E
  ok : ∀ (C : Cn) (X : Cx), COk T C → XOk T C sc gen X → SndO C X o t
structure TrI (T : TC) (sc : Scope) (gen : Bool) (tgE e : Expr) where
  t : It
  q : Bool
  ok : ∀ (C : Cn) (X : Cx), COk T C → XOk T C sc gen X → SndI C X tgE e t q
section
variable (T : TC) (sc : Scope) (gen : Bool)
def trName (x : Str) (p : Pos) : Option (TrE T sc gen (.Name x p)) :=
  match T.N.findIdx? (· == x) with
  | some i =>
    if h : T.N[i]? = some x ∧ visC sc x = true ∧ dunC x = true then
      if hc : T.c i = .pl then some ⟨.v i, fun C X k h' => snd_v k h' h.1 h.2.1 h.2.2 hc⟩
      else some ⟨.m i, fun C X k h' => snd_m k h' h.1 h.2.1 h.2.2 hc⟩
    else none
  | none => match h : T.gs.lookup x with
    | some (.con d) => if h2 : glC sc x = true ∧ dunC x = true then some ⟨.c d, fun C X k h' => snd_g k h' h2.1 h h2.2⟩ else none
    | _ => none
/-- the slot of a name that is no plain one -/
structure MuN (T : TC) (sc : Scope) (x : Str) where
  i : Nat
  a : T.N[i]? = some x
  v : visC sc x = true
  d : dunC x = true
  c : T.c i ≠ .pl
def muN (x : Str) : Option (MuN T sc x) := match T.N.findIdx? (· == x) with
  | some i => if h : T.N[i]? = some x ∧ visC sc x = true ∧ dunC x = true ∧ T.c i ≠ .pl then some ⟨i, h.1, h.2.1, h.2.2.1, h.2.2.2⟩ else none
  | none => none
variable {T sc gen}
section
variable (f : (e : Expr) → Option (TrE T sc gen e))
def trL : (es : List Expr) → Option (TrL T sc gen es)
  | [] => some ⟨.nil, fun C X k h => sndl_nil⟩
  | .Starred a p :: es => match f a, trL es with
    | some ra, some r => some ⟨.star ra.t r.t, fun C X k h => sndl_star h (ra.ok C X k h) (r.ok C X k h)⟩
    | _, _ => none
  | a :: es => match f a, trL es with
    | some ra, some r => some ⟨.cons ra.t r.t, fun C X k h => sndl_cons (ra.ok C X k h) (r.ok C X k h)⟩
    | _, _ => none
def trA : (es : List Expr) → Option (TrA T sc gen es)
  | [] => some ⟨.nil, fun C X k h => snda_nil⟩
  | .Name x p :: es => match trA es with
    | some r => (match muN T sc x with
      | some m => some ⟨.ref m.i r.t, fun C X k h => snda_ref k h m.a m.v m.d m.c (r.ok C X k h)⟩
      | none => match f (.Name x p) with
        | some ra => some ⟨.cons ra.t r.t, fun C X k h => snda_cons (ra.ok C X k h) (r.ok C X k h)⟩
        | none => none)
    | none => none
  | a :: es => match f a, trA es with
    | some ra, some r => some ⟨.cons ra.t r.t, fun C X k h => snda_cons (ra.ok C X k h) (r.ok C X k h)⟩
    | _, _ => none
def trB : (es : List Expr) → Option (TrB T sc gen es)
  | [a] => match f a with
    | some ra => some ⟨.cons ra.t .nil, fun C X k h => sndb_one (ra.ok C X k h)⟩
    | none => none
  | [a, b] => match f a, f b with
    | some ra, some rb => some ⟨.cons ra.t (.cons rb.t .nil), fun C X k h => sndb_two (ra.ok C X k h) (rb.ok C X k h)⟩
    | _, _ => none
  | _ => none
def trT : (es : List Expr) → Option (TrT T sc gen es)
  | [] => some ⟨.nil, fun C X k h => sndt_nil⟩
  | [a] => match f a with
    | some ra => some ⟨.cons ra.t .nil, fun C X k h => sndt_one (ra.ok C X k h)⟩
    | none => none
  | _ => none
def trAll : (es : List Expr) → Option (TrAll T sc gen es)
  | [] => none
  | [a] => match f a with
    | some ra => some ⟨[ra.t], fun C X k h => .one (ra.ok C X k h)⟩
    | none => none
  | a :: es => match f a, trAll es with
    | some ra, some r => some ⟨ra.t :: r.t, fun C X k h => .cons (ra.ok C X k h) (r.ok C X k h)⟩
    | _, _ => none
def trO : (o : Option Expr) → Option (TrO T sc gen o)
  | none => some ⟨.c .non, fun C X k h => sndo_n⟩
  | some a => match f a with
    | some ra => if h0 : ra.t.abs = false then some ⟨ra.t, fun C X k h => sndo_s (ra.ok C X k h) h0⟩ else none
    | none => none
def trI (tgE : Expr) : (e : Expr) → Option (TrI T sc gen tgE e)
  | .Name x p => match muN T sc x with
    | some m => some ⟨.sqb m.i, true, fun C X k h => sndi_sqb k h m.a m.v m.d m.c⟩
    | none => match f (.Name x p) with
      | some ra => some ⟨.seq ra.t, false, fun C X k h => sndi_seq h (ra.ok C X k h) rfl⟩
      | none => none
  | .Call (.Name x pp) [a] [] p =>
    if hx : x = "range" ∧ glC sc "range" = true ∧ (match T.gs.lookup ("range" : Str) with | some .blt => true | _ => false) = true then
      match f a with
      | some ra => some ⟨.rng (.c (.int 0)) ra.t, false, fun C X k h => by
          obtain ⟨rfl, h1, h2⟩ := hx
          exact sndi_rng1 k h h1 (by split at h2 <;> first | assumption | cases h2) (ra.ok C X k h)⟩
      | none => none
    else if hx : x = "enumerate" ∧ glC sc "enumerate" = true ∧ (match T.gs.lookup ("enumerate" : Str) with | some .blt => true | _ => false) = true ∧ (match tgE with | .Tuple .. => true | _ => false) = true then
      match f a with
      | some ra => some ⟨.enm ra.t, false, fun C X k h => by
          obtain ⟨rfl, h1, h2, h3⟩ := hx
          cases tgE <;> first | (cases h3; done) | exact sndi_enm k h h1 (by split at h2 <;> first | assumption | cases h2) (ra.ok C X k h)⟩
      | none => none
    else match f (.Call (.Name x pp) [a] [] p) with
      | some ra => some ⟨.seq ra.t, false, fun C X k h => sndi_seq h (ra.ok C X k h) rfl⟩
      | none => none
  | .Call (.Name x pp) [a, b] [] p =>
    if hx : x = "range" ∧ glC sc "range" = true ∧ (match T.gs.lookup ("range" : Str) with | some .blt => true | _ => false) = true then
      match f a, f b with
      | some ra, some rb => some ⟨.rng ra.t rb.t, false, fun C X k h => by
          obtain ⟨rfl, h1, h2⟩ := hx
          exact sndi_rng2 k h h1 (by split at h2 <;> first | assumption | cases h2) (ra.ok C X k h) (rb.ok C X k h)⟩
      | _, _ => none
    else if hx : x = "zip" ∧ glC sc "zip" = true ∧ (match T.gs.lookup ("zip" : Str) with | some .blt => true | _ => false) = true ∧ (match tgE with | .Tuple .. => true | _ => false) = true then
      match f a, f b with
      | some ra, some rb => some ⟨.zip ra.t rb.t, false, fun C X k h => by
          obtain ⟨rfl, h1, h2, h3⟩ := hx
          cases tgE <;> first | (cases h3; done) | exact sndi_zip k h h1 (by split at h2 <;> first | assumption | cases h2) (ra.ok C X k h) (rb.ok C X k h)⟩
      | _, _ => none
    else match f (.Call (.Name x pp) [a, b] [] p) with
      | some ra => some ⟨.seq ra.t, false, fun C X k h => sndi_seq h (ra.ok C X k h) rfl⟩
      | none => none
  | .Call (.Name x pp) [a, b, c] [] p =>
    if hx : x = "range" ∧ glC sc "range" = true ∧ (match T.gs.lookup ("range" : Str) with | some .blt => true | _ => false) = true then
      match f a, f b, f c with
      | some ra, some rb, some rc => some ⟨.rng3 ra.t rb.t rc.t, false, fun C X k h => by
          obtain ⟨rfl, h1, h2⟩ := hx
          exact sndi_rng3 k h h1 (by split at h2 <;> first | assumption | cases h2) (ra.ok C X k h) (rb.ok C X k h) (rc.ok C X k h)⟩
      | _, _, _ => none
    else match f (.Call (.Name x pp) [a, b, c] [] p) with
      | some ra => some ⟨.seq ra.t, false, fun C X k h => sndi_seq h (ra.ok C X k h) rfl⟩
      | none => none
  | e => if hs : noSet e = true then match f e with
      | some ra => some ⟨.seq ra.t, false, fun C X k h => sndi_seq h (ra.ok C X k h) hs⟩
      | none => none
    else none
end
end
/-- the blocks' parts: what is asked of the scopes -/
def isBlt (T : TC) (sc : Scope) (x : Str) : Bool := glC sc x && (match T.gs.lookup x with | some .blt => true | _ => false)
theorem isBlt_of {T : TC} {sc : Scope} {x : Str} (h : isBlt T sc x = true) : glC sc x = true ∧ T.gs.lookup x = some .blt := by
  unfold isBlt at h
  rw [Bool.and_eq_true] at h
  refine ⟨h.1, ?_⟩
  have h2 := h.2
  split at h2 <;> first | assumption | cases h2
def mtOf (m : Str) : Option Mt := if m = "index" then some .ind else if m = "count" then some .cnt else none
theorem mtOf_nm {m : Str} {k : Mt} (h : mtOf m = some k) : m = k.nm := by
  unfold mtOf at h
  split at h
  · rename_i e
    cases h
    exact e
  · split at h
    · rename_i e
      cases h
      exact e
    · cases h
def trE (T : TC) : Nat → (sc : Scope) → (gen : Bool) → (e : Expr) → Option (TrE T sc gen e)
  | 0, _, _, _ => none
  | n + 1, sc, gen, e => match e with
    | .Name x p => trName T sc gen x p
    | .Constant x j p => match h : constD x with
      | some d => some ⟨.c d, fun C X k h' => snd_k h' h⟩
      | none => none
    | .BinOp a o b p => match ho : boR o, trE T n sc gen a, trE T n sc gen b with
      | some q, some ra, some rb => if hk : (rb.t.pur || ra.t.own) = true then some ⟨.bin q ra.t rb.t, fun C X k h => snd_bin h ho (ra.ok C X k h) (rb.ok C X k h) hk⟩ else none
      | _, _, _ => none
    | .UnaryOp .Not a p => match trE T n sc gen a with
      | some ra => some ⟨.un .not ra.t, fun C X k h => snd_not h (ra.ok C X k h)⟩
      | none => none
    | .UnaryOp .USub a p => match trE T n sc gen a with
      | some ra => some ⟨.un .neg ra.t, fun C X k h => snd_neg h (ra.ok C X k h)⟩
      | none => none
    | .Compare (.Call (.Name x pp) [a] [] p1) [o] [.Call (.Name y pq) [b] [] p2] p =>
      if hx : (x = "set" ∧ y = "set") ∧ isBlt T sc "set" = true then
        match trE T n sc gen a, trE T n sc gen b with
        | some ra, some rb => match hv : rb.t with
          | .v j => match ho : o with
            | .Eq => some ⟨.pri .seq (.cons ra.t (.cons (.v j) .nil)), fun C X k h => by
                obtain ⟨⟨rfl, rfl⟩, h1⟩ := hx
                exact snd_seq (neg := false) k h (isBlt_of h1).1 (isBlt_of h1).2 (ra.ok C X k h) (by rw [← hv]; exact rb.ok C X k h)⟩
            | .NotEq => some ⟨.pri .sne (.cons ra.t (.cons (.v j) .nil)), fun C X k h => by
                obtain ⟨⟨rfl, rfl⟩, h1⟩ := hx
                exact snd_seq (neg := true) k h (isBlt_of h1).1 (isBlt_of h1).2 (ra.ok C X k h) (by rw [← hv]; exact rb.ok C X k h)⟩
            | _ => none
          | _ => none
        | _, _ => none
      else match trE T n sc gen (.Call (.Name x pp) [a] [] p1), trE T n sc gen (.Call (.Name y pq) [b] [] p2) with
      | some ra, some rb => if hk : (rb.t.pur || ra.t.own) = true ∧ noSet (.Call (.Name y pq) [b] [] p2) = true then some ⟨.cmp (coR o) ra.t rb.t, fun C X k h => snd_cmp h (ra.ok C X k h) (rb.ok C X k h) hk.1 hk.2⟩ else none
      | _, _ => none
    | .Compare a [o] [b] p => match trE T n sc gen a, trE T n sc gen b with
      | some ra, some rb => if hk : (rb.t.pur || ra.t.own) = true ∧ noSet b = true then some ⟨.cmp (coR o) ra.t rb.t, fun C X k h => snd_cmp h (ra.ok C X k h) (rb.ok C X k h) hk.1 hk.2⟩ else none
      | _, _ => none
    | .Compare a [o, o'] [b, c] p => match trE T n sc gen a, trE T n sc gen b, trE T n sc gen c with
      | some ra, some rb, some rc => if hk : noSet c = true then some ⟨.chn (coR o) (coR o') ra.t rb.t rc.t, fun C X k h => snd_chn h (ra.ok C X k h) (rb.ok C X k h) (rc.ok C X k h) hk⟩ else none
      | _, _, _ => none
    | .BoolOp .And es p => match trAll (fun e => trE T n sc gen e) es with
      | some r => if hl : 2 ≤ r.t.length then some ⟨boE true r.t, fun C X k h => snd_bo (and := true) h (r.ok C X k h) hl⟩ else none
      | none => none
    | .BoolOp .Or es p => match trAll (fun e => trE T n sc gen e) es with
      | some r => if hl : 2 ≤ r.t.length then some ⟨boE false r.t, fun C X k h => snd_bo (and := false) h (r.ok C X k h) hl⟩ else none
      | none => none
    | .IfExp c a b p => match trE T n sc gen c, trE T n sc gen a, trE T n sc gen b with
      | some rc, some ra, some rb => some ⟨.ife rc.t ra.t rb.t, fun C X k h => snd_ife (rc.ok C X k h) (ra.ok C X k h) (rb.ok C X k h)⟩
      | some rc, none, some rb => if hn : nost a = true then some ⟨.ife rc.t .stk rb.t, fun C X k h => snd_ife (rc.ok C X k h) (snd_stk hn) (rb.ok C X k h)⟩ else none
      | _, _, _ => none
    | .Call (.Name x pp) [a] [⟨some y, .Name z pk, kp⟩] p =>
      if hx : (x = "sorted" ∧ y = "key") ∧ isBlt T sc "sorted" = true ∧ glC sc z = true ∧ dunC z = true then
        match hz : T.gs.lookup z with
        | some (.fn i) => match hI : T.fs[i]?, trE T n sc gen a with
          | some I, some ra => if hf : I.fst = true then some ⟨.pri .srk (.cons ra.t .nil), fun C X k h => by
              obtain ⟨⟨rfl, rfl⟩, h1, h2, h3⟩ := hx
              exact snd_srk k h (isBlt_of h1).1 (isBlt_of h1).2 h2 h3 hz hI hf (ra.ok C X k h)⟩ else none
          | _, _ => none
        | _ => none
      else none
    | .Tuple es j p => match trL (fun e => trE T n sc gen e) es with
      | some r => some ⟨.tup r.t, fun C X k h => snd_tup h (r.ok C X k h)⟩
      | none => none
    | .List es p => match trL (fun e => trE T n sc gen e) es with
      | some r => some ⟨.lst r.t, fun C X k h => snd_lst h (r.ok C X k h)⟩
      | none => none
    | .Subscript a (.Slice none none (some (.UnaryOp .USub (.Constant (.int (.ofNat 1)) k p1) p2)) p3) p => match trE T n sc gen a with
      | some ra => some ⟨.rev ra.t, fun C X k h => snd_rev h (ra.ok C X k h)⟩
      | none => none
    | .Subscript a (.Slice lo hi none p2) p => match trE T n sc gen a, trO (fun e => trE T n sc gen e) lo, trO (fun e => trE T n sc gen e) hi with
      | some ra, some rl, some rh => if hk : ((rl.t.pur && rh.t.pur) || ra.t.own) = true then some ⟨.sli ra.t rl.t rh.t, fun C X k h => snd_sli h (ra.ok C X k h) (rl.ok C X k h) (rh.ok C X k h) hk⟩ else none
      | _, _, _ => none
    | .Subscript a b p => match trE T n sc gen a, trE T n sc gen b with
      | some ra, some rb => if hk : (rb.t.pur || ra.t.own) = true ∧ noSlice b = true then some ⟨.idx ra.t rb.t, fun C X k h => snd_idx h (ra.ok C X k h) (rb.ok C X k h) hk.1 hk.2⟩ else none
      | _, _ => none
    | .ListComp elt [⟨tgE, iter, ifs, .ofNat 0⟩] scope p => match htg : tgOf T tgE, trI (T := T) (sc := sc) (gen := gen) (fun e => trE T n sc gen e) tgE iter, trT (fun e => trE T n (relS scope sc) gen e) ifs, trE T n (relS scope sc) gen elt with
      | some (tg, l), some ri, some rt, some re => if hb : blkC T sc scope l = true ∧ ownC T scope l = true ∧ (!ri.q || (rt.t.pur && re.t.pur)) = true then
          some ⟨.lc tg ri.t rt.t re.t, fun C X k h => snd_lc k h htg hb.1 hb.2.1 (ri.ok C X k h) hb.2.2 (fun X' h' => rt.ok C.cut X' k.cut h') (fun X' h' => re.ok C.cut X' k.cut h')⟩ else none
      | _, _, _, _ => none
    | .DictComp kx vx [⟨tgE, iter, ifs, .ofNat 0⟩] scope p => match htg : tgOf T tgE, trI (T := T) (sc := sc) (gen := gen) (fun e => trE T n sc gen e) tgE iter, trT (fun e => trE T n (relS scope sc) gen e) ifs, trE T n (relS scope sc) gen kx, trE T n (relS scope sc) gen vx with
      | some (tg, l), some ri, some rt, some rk, some re => if hb : blkC T sc scope l = true ∧ ownC T scope l = true ∧ (!ri.q || (rt.t.pur && (rk.t.pur && re.t.pur))) = true then
          some ⟨.dc tg ri.t rt.t rk.t re.t, fun C X k h => snd_dc k h htg hb.1 hb.2.1 (ri.ok C X k h) hb.2.2 (fun X' h' => rt.ok C.cut X' k.cut h') (fun X' h' => rk.ok C.cut X' k.cut h') (fun X' h' => re.ok C.cut X' k.cut h')⟩ else none
      | _, _, _, _, _ => none
    | .Call (.Name x pp) [.GeneratorExp elt [⟨tgE, iter, ifs, .ofNat 0⟩] scope gpos] [] p =>
      if hx : (x = "all" ∨ x = "any") ∧ isBlt T sc x = true ∧ gen = true then
        match htg : tgOf T tgE, trI (T := T) (sc := sc) (gen := gen) (fun e => trE T n sc gen e) tgE iter, trT (fun e => trE T n scope false e) ifs, trE T n scope false elt with
        | some (tg, l), some ri, some rt, some re => if hb : blkC T sc scope l = true ∧ ownC T scope l = true ∧ genC T scope l = true ∧ noLst iter = true ∧ (!ri.q || (rt.t.pur && re.t.pur)) = true ∧ T.lam = false then
            some ⟨.gen (decide (x = "all")) tg ri.t rt.t re.t, fun C X k h => by
              obtain ⟨h1, h2, h3⟩ := hx
              obtain ⟨g1, g2⟩ := isBlt_of h2
              subst h3
              exact snd_gen k h hb.2.2.2.2.2 (by rcases h1 with rfl | rfl <;> rfl) g1 g2 htg hb.1 hb.2.1 hb.2.2.1 (ri.ok C X k h) hb.2.2.2.1 hb.2.2.2.2.1 (fun X' h' => rt.ok C.cut X' k.cut h') (fun X' h' => re.ok C.cut X' k.cut h')⟩ else none
        | _, _, _, _ => none
      else none
    | .Call (.Name x pp) [.Lambda ⟨[], [], none, [], [], none, []⟩ body scope lpos] [] p =>
      match hx : T.gs.lookup x, trE T n scope false body with
      | some (.tld val ws), some re => if hb : gen = true ∧ T.lam = true ∧ glC sc x = true ∧ dunC x = true ∧ ws.all (fun p => PyData.strOk p.1) = true ∧ LamX.lamSB sc scope = true ∧ re.t.pur = true then
          some ⟨.tld val ws re.t, fun C X k h => by
            obtain ⟨h1, h2, h3, h4, h5, h6, h7⟩ := hb
            subst h1
            exact snd_tld k h h2 h3 h4 hx h5 (LamX.lamS_by h6) h7 fun C' X' k' h' => re.ok C' X' k' h'⟩ else none
      | _, _ => none
    | .Call (.Name x pp) [a, .Tuple [.Name y p1, .Name z p2] j p3] [] p =>
      if x = "isinstance" then
        if hx : x = "isinstance" ∧ isBlt T sc "isinstance" = true ∧ isBlt T sc y = true ∧ isBlt T sc z = true then
          match ht : tyOf y, hu : tyOf z, trE T n sc gen a with
          | some t, some u, some ra => some ⟨.isi ra.t [t, u], fun C X k h => by
              obtain ⟨rfl, h1, h2, h3⟩ := hx
              exact snd_isi2 k h (isBlt_of h1).1 (isBlt_of h1).2 (isBlt_of h2).1 (isBlt_of h2).2 ht (isBlt_of h3).1 (isBlt_of h3).2 hu (ra.ok C X k h)⟩
          | _, _, _ => none
        else none
      else trCall n sc gen x pp [a, .Tuple [.Name y p1, .Name z p2] j p3] p (fun e => trE T n sc gen e)
    | .Call (.Name x pp) [a, .Name y p1] [] p =>
      if x = "isinstance" then
        if hx : x = "isinstance" ∧ isBlt T sc "isinstance" = true ∧ isBlt T sc y = true then
          match ht : tyOf y, trE T n sc gen a with
          | some t, some ra => some ⟨.isi ra.t [t], fun C X k h => by
              obtain ⟨rfl, h1, h2⟩ := hx
              exact snd_isi1 k h (isBlt_of h1).1 (isBlt_of h1).2 (isBlt_of h2).1 (isBlt_of h2).2 ht (ra.ok C X k h)⟩
          | _, _ => none
        else none
      else trCall n sc gen x pp [a, .Name y p1] p (fun e => trE T n sc gen e)
    | .Call (.Name x pp) [.Call (.Name y pq) [a] [] p2] [] p =>
      if hx : (x = "sorted" ∧ y = "set") ∧ isBlt T sc "sorted" = true ∧ isBlt T sc "set" = true then
        match trE T n sc gen a with
        | some ra => some ⟨.pri .sst (.cons ra.t .nil), fun C X k h => by
            obtain ⟨⟨rfl, rfl⟩, h1, h2⟩ := hx
            exact snd_sst k h (isBlt_of h1).1 (isBlt_of h1).2 (isBlt_of h2).1 (isBlt_of h2).2 (ra.ok C X k h)⟩
        | none => none
      else if hx : (x = "len" ∧ y = "set") ∧ isBlt T sc "len" = true ∧ isBlt T sc "set" = true then
        match trE T n sc gen a with
        | some ra => some ⟨.pri .lns (.cons ra.t .nil), fun C X k h => by
            obtain ⟨⟨rfl, rfl⟩, h1, h2⟩ := hx
            exact snd_lns k h (isBlt_of h1).1 (isBlt_of h1).2 (isBlt_of h2).1 (isBlt_of h2).2 (ra.ok C X k h)⟩
        | none => none
      else if hx : (x = "list" ∧ y = "range") ∧ isBlt T sc "list" = true ∧ isBlt T sc "range" = true then
        match trE T n sc gen a with
        | some ra => some ⟨.pri .lrg (.cons ra.t .nil), fun C X k h => by
            obtain ⟨⟨rfl, rfl⟩, h1, h2⟩ := hx
            exact snd_lrg k h (isBlt_of h1).1 (isBlt_of h1).2 (isBlt_of h2).1 (isBlt_of h2).2 (ra.ok C X k h)⟩
        | none => none
      else trCall n sc gen x pp [.Call (.Name y pq) [a] [] p2] p (fun e => trE T n sc gen e)
    | .Call (.Attribute (.Name x p1) m apos) [b] [] p => match hm : mtOf m, trE T n sc gen (.Name x p1), trE T n sc gen b with
      | some k, some ra, some rb => if hk : (rb.t.pur || ra.t.own) = true ∧ (apos.endLine == p.line) = true then some ⟨.mth k ra.t rb.t, fun C X k' h => by
          obtain rfl := mtOf_nm hm
          exact snd_mth h (ra.ok C X k' h) (rb.ok C X k' h) hk.1 hk.2⟩ else none
      | _, _, _ => none
    | .Dict [] [] p => some ⟨.pri .dict (.cons (.tup .nil) .nil), fun C X k h => snd_dict0 h⟩
    | .Call (.Name x pp) [.Call (.Name y pq) [a, b, c] [] p2] [] p =>
      if hx : (x = "tuple" ∧ y = "range") ∧ isBlt T sc "tuple" = true ∧ isBlt T sc "range" = true then
        match trE T n sc gen a, trE T n sc gen b, trE T n sc gen c with
        | some ra, some rb, some rc => some ⟨.pri .trg (.cons ra.t (.cons rb.t (.cons rc.t .nil))), fun C X k h => by
            obtain ⟨⟨rfl, rfl⟩, h1, h2⟩ := hx
            exact snd_trg k h (isBlt_of h1).1 (isBlt_of h1).2 (isBlt_of h2).1 (isBlt_of h2).2 (ra.ok C X k h) (rb.ok C X k h) (rc.ok C X k h)⟩
        | _, _, _ => none
      else trCall n sc gen x pp [.Call (.Name y pq) [a, b, c] [] p2] p (fun e => trE T n sc gen e)
    | .Call (.Name x pp) es [] p => trCall n sc gen x pp es p (fun e => trE T n sc gen e)
    | _ => none
where
  trCall (n : Nat) (sc : Scope) (gen : Bool) (x : Str) (pp : Pos) (es : List Expr) (p : Pos) (f : (e : Expr) → Option (TrE T sc gen e)) : Option (TrE T sc gen (.Call (.Name x pp) es [] p)) :=
    match hx : T.gs.lookup x with
    | some (.fn i) => match es with
      | [] => none
      | a :: r => match hI : T.fs[i]?, trA f (a :: r) with
        | some I, some ra =>
          let mt := if I.m0 = true then (akL ra.t).getD 0 none else none
          if h : glC sc x = true ∧ dunC x = true ∧ fitC T I (akL ra.t) mt = true then some ⟨.call mt i ra.t, fun C X k h' => snd_call k h' h.1 h.2.1 hx hI (ra.ok C X k h') h.2.2⟩ else none
        | _, _ => none
    | some .fct => match es with
      | [a] => match f a with
        | some ra => if h : glC sc x = true ∧ dunC x = true then some ⟨.pri .fct (.cons ra.t .nil), fun C X k h' => snd_fct k h' h.1 h.2 hx (ra.ok C X k h')⟩ else none
        | none => none
      | _ => none
    | some .blt => match hp : prN x, trB f es with
      | some q, some rb => if h : glC sc x = true then some ⟨.pri q rb.t, fun C X k h' => snd_pri k h' h hx hp (rb.ok C X k h')⟩ else none
      | _, _ => none
    | _ => none
end Ev
/-! ### the translation of statements -/
namespace Ev
open PySem PySem.Spec PyProof.Rows L2
structure SOk (T : TC) (C : Cn) (sc : Scope) (gen : Bool) (X : Cx) : Prop where
  x : XOk T C sc gen X
  own : PassesOwn (model X.prog X.w) X.A X.env X.xe
  fn : ∀ y, X.fn y = true
  kind : sc.kind = .function
  tk : Takes X (fun cls d _ H => C.W cls d H)
structure TrS (T : TC) (sc : Scope) (gen : Bool) (st : Stmt) where
  t : S
  as : List Nat
  ok : ∀ (C : Cn) (X : Cx), COk T C → SOk T C sc gen X → PS X st (tS C as (ex C.call C.fuel t))
structure TrSs (T : TC) (sc : Scope) (gen : Bool) (st : List Stmt) where
  t : SL
  as : List Nat
  ok : ∀ (C : Cn) (X : Cx), COk T C → SOk T C sc gen X → PSs X st (tS C as (exs C.call C.fuel t))
/-- a value that is no comprehension -/
def noCp : Expr → Bool
  | .ListComp .. | .SetComp .. | .DictComp .. => false
  | _ => true
theorem sw_of {e : Expr} (h : noCp e = true) (t : Option Expr) (l : Nat) (env : PySem.Env) : swapsWith e t l env = pure false := by
  cases e <;> first | rfl | (cases h; done)
def noTup : Expr → Bool
  | .Tuple .. => false
  | _ => true
theorem sws_of {e t : Expr} (h : noCp e = true) (l : Nat) (env : PySem.Env) : swapsWithSole [t] e l env = pure false := sw_of h _ _ _
theorem stores_of {e t : Expr} (h : noTup e = true) (env : PySem.Env) : swappedStores [t] e env = pure none := by
  cases e <;> first | (cases h; done) | (cases t <;> rfl)
def locC (sc : Scope) (x : Str) : Bool := decide (sc.names.lookup x = some .local) || decide (sc.names.lookup x = some .cell)
theorem loc_of {sc : Scope} {x : Str} (h : locC sc x = true) : Loc sc x := by
  unfold locC at h
  rw [Bool.or_eq_true, decide_eq_true_eq, decide_eq_true_eq] at h
  exact h
/-- a plain slot that is stored to -/
structure PlN (T : TC) (sc : Scope) (x : Str) where
  i : Nat
  a : T.N[i]? = some x
  l : locC sc x = true
  c : T.c i = .pl
structure OwN (T : TC) (sc : Scope) (x : Str) where
  i : Nat
  a : T.N[i]? = some x
  l : locC sc x = true
  c : T.c i = .mu
  z : i ≠ 0
section
variable (T : TC) (sc : Scope)
def plN (x : Str) : Option (PlN T sc x) := match T.N.findIdx? (· == x) with
  | some i => if h : T.N[i]? = some x ∧ locC sc x = true ∧ T.c i = .pl then some ⟨i, h.1, h.2.1, h.2.2⟩ else none
  | none => none
def owN (x : Str) : Option (OwN T sc x) := match T.N.findIdx? (· == x) with
  | some i => if h : T.N[i]? = some x ∧ locC sc x = true ∧ T.c i = .mu ∧ i ≠ 0 then some ⟨i, h.1, h.2.1, h.2.2.1, h.2.2.2⟩ else none
  | none => none
end
section
variable {T : TC} {C : Cn} {X : Cx} {sc : Scope} {gen : Bool} {e a b c tgE : Expr} {te ta tb tc : E} {pos : Pos}
theorem lt_of {i : Nat} {x : Str} (k : COk T C) (h : T.N[i]? = some x) : i < C.N.length := by rw [k.N]; exact (List.getElem?_eq_some_iff.mp h).1
theorem sn_asg {x : Str} {p' : Pos} (k : COk T C) (h : SOk T C sc gen X) (m : PlN T sc x) (he : SndE C X e te) (hs : noCp e = true) : PS X (.Assign [.Name x p'] e pos) (tS C [m.i] (ex C.call C.fuel (.asg m.i te))) :=
  st_asg (by rw [h.x.N]; exact k.nd) (by rw [h.x.N]; exact m.a) (by rw [h.x.sc]; exact loc_of m.l) he.esc (sw_of hs _ _ _) (.inl (h.fn _)) (by rw [k.cl]; exact m.c) (lt_of k m.a)
theorem sn_own {x : Str} {p' : Pos} (k : COk T C) (h : SOk T C sc gen X) (m : OwN T sc x) (he : SndE C X e te) (hf : te.isF = true) (hs : noCp e = true) : PS X (.Assign [.Name x p'] e pos) (tS C [m.i] (ex C.call C.fuel (.own m.i te))) :=
  st_own (by rw [h.x.N]; exact k.nd) (by rw [h.x.N]; exact m.a) (by rw [h.x.sc]; exact loc_of m.l) (he.frx hf) (sw_of hs _ _ _) (.inl (h.fn _)) (by rw [k.cl]; exact m.c) m.z (lt_of k m.a)
/-- a comprehension that is stored -/
theorem swl_true {elt : Expr} {gs : List Comprehension} {scope : Scope} {py : Pos} {y : Str} {l : Nat} {env : PySem.Env} (hk : env.scope.kind = .function) (hy : env.scope.names.lookup y = some .local) (hl : (py.line == pos.line) = true)
    (ha : (scope.names.any fun (n, k) => n == y && (k == .local || k == .cell)) = false) : swapsWith (.ListComp elt gs scope pos) (some (.Name y py)) l env = pure true := sw_true hk hy hl ha
theorem swl_false {elt : Expr} {gs : List Comprehension} {scope : Scope} {py : Pos} {y : Str} {l : Nat} {env : PySem.Env} (hy : (decide (env.scope.names.lookup y = some .local)) = false) : swapsWith (.ListComp elt gs scope pos) (some (.Name y py)) l env = pure false := by
  have ky : (env.kindOf y == some .local) = false := by
    cases q : (env.kindOf y == some .local) with
    | false => rfl
    | true =>
      have q2 : env.scope.names.lookup y = some .local := eq_of_beq q
      rw [q2] at hy
      simp at hy
  unfold swapsWith
  simp only [ky, Bool.and_false, Bool.false_and]
/-- two, three names at once, all plain locals -/
theorem plainP {i : Nat} {x : Str} (h : XOk T C sc gen X) (hx : sc.names.lookup x = some .local) : X.env.scope.names.lookup x = some .local := by rw [h.sc]; exact hx
end
/-! #### several targets -/
structure SndP (C : Cn) (X : Cx) (ts : List (Bool × Nat)) (es : List Expr) (l : EL) : Prop where
  p : PA X es (tPL C ts l.pur (evL C.call l))
section
variable {T : TC} {C : Cn} {X : Cx} {sc : Scope} {gen : Bool} {e a b c tgE : Expr} {te ta tb tc : E} {pos : Pos}
theorem sndp_nil : SndP C X [] [] .nil := ⟨tp_nil⟩
theorem sndp_cons {t : Bool × Nat} {ts : List (Bool × Nat)} {es : List Expr} {l : EL} (ha : SndE C X a ta) (hf : (!t.1 || ta.isF) = true) (hr : SndP C X ts es l) : SndP C X (t :: ts) (a :: es) (.cons ta l) := by
  refine ⟨tp_cons (t := t) ?_ hr.p (star_c ha.nos _)⟩
  cases h : t.1 with
  | false => rw [if_neg (by simp)]; exact ha.esc
  | true =>
    rw [h] at hf
    rw [if_pos rfl]
    exact ha.frx (by simpa using hf)
end
structure TrP (T : TC) (sc : Scope) (gen : Bool) (ts : List (Bool × Nat)) (es : List Expr) where
  t : EL
  ok : ∀ (C : Cn) (X : Cx), COk T C → XOk T C sc gen X → SndP C X ts es t
section
variable {T : TC} {sc : Scope} {gen : Bool} (f : (e : Expr) → Option (TrE T sc gen e))
def trP : (ts : List (Bool × Nat)) → (es : List Expr) → Option (TrP T sc gen ts es)
  | [], [] => some ⟨.nil, fun C X k h => sndp_nil⟩
  | t :: ts, a :: es => match f a, trP ts es with
    | some ra, some r => if hf : (!t.1 || ra.t.isF) = true then some ⟨.cons ra.t r.t, fun C X k h => sndp_cons (ra.ok C X k h) hf (r.ok C X k h)⟩ else none
    | _, _ => none
  | _, _ => none
end
/-- the flags of the targets' slots, whether they fit -/
def flg (T : TC) (l : List (Str × Nat)) : List (Bool × Nat) := l.map fun p => (decide (T.c p.2 = .mu), p.2)
def parC (T : TC) (sc : Scope) (l : List (Str × Nat)) : Bool := l.all fun p => decide (T.N[p.2]? = some p.1) && (locC sc p.1 && (decide (T.c p.2 = .pl) || (decide (T.c p.2 = .mu) && !decide (p.2 = 0))))
section
variable {T : TC} {C : Cn} {X : Cx} {sc : Scope} {gen : Bool} {e a b c tgE : Expr} {te ta tb tc : E} {pos : Pos}
theorem flg_snd (l : List (Str × Nat)) : (flg T l).map (·.2) = l.map (·.2) := by
  unfold flg
  rw [List.map_map]
  rfl
theorem par_fit {l : List (Str × Nat)} (k : COk T C) (h : parC T sc l = true) : PFit C (flg T l) := by
  intro t ht
  obtain ⟨p, hp, rfl⟩ := List.mem_map.mp ht
  have q := List.all_eq_true.mp h p hp
  rw [Bool.and_eq_true, Bool.and_eq_true] at q
  have q1 := of_decide_eq_true q.1
  have q2 := q.2.2
  rw [Bool.or_eq_true, Bool.and_eq_true] at q2
  refine ⟨lt_of k q1, fun z => ?_, fun z => ?_⟩
  · have z := of_decide_eq_false z
    rw [k.cl]
    rcases q2 with q2 | q2
    · exact of_decide_eq_true q2
    · exact absurd (of_decide_eq_true q2.1) z
  · have z := of_decide_eq_true z
    rw [k.cl]
    refine ⟨z, ?_⟩
    rcases q2 with q2 | q2
    · rw [of_decide_eq_true q2] at z; cases z
    · simpa using q2.2
theorem par_st {l : List (Str × Nat)} (h : SOk T C sc gen X) (hp : parC T sc l = true) : StOk X l := by
  intro p hpl
  have q := List.all_eq_true.mp hp p hpl
  rw [Bool.and_eq_true, Bool.and_eq_true] at q
  exact ⟨by rw [h.x.N]; exact of_decide_eq_true q.1, by rw [h.x.sc]; exact loc_of q.2.1, .inl (h.fn _)⟩
def unpC (T : TC) (l : List (Str × Nat)) : Bool := l.all fun p => decide (T.c p.2 = .pl)
theorem unp_pl {l : List (Str × Nat)} (k : COk T C) (hp : parC T sc l = true) (hu : unpC T l = true) : (∀ i ∈ l.map (·.2), C.cl i = .pl) ∧ (∀ i ∈ l.map (·.2), i < C.N.length) := by
  refine ⟨fun i hi => ?_, fun i hi => ?_⟩
  · obtain ⟨p, hpl, rfl⟩ := List.mem_map.mp hi
    rw [k.cl]
    exact of_decide_eq_true (List.all_eq_true.mp hu p hpl)
  · obtain ⟨p, hpl, rfl⟩ := List.mem_map.mp hi
    have q := List.all_eq_true.mp hp p hpl
    rw [Bool.and_eq_true] at q
    exact lt_of k (of_decide_eq_true q.1)
/-- which way the stores go -/
def parW (sc : Scope) (ts vs : List Expr) : Bool :=
  vs.all (foldedForSure 8) || !(ts.length == 2 || ts.length == 3) || ((ts.filterMap fun | .Name id pos => if sc.names.lookup id == some .local && pos.line == ((ts.head?.map (·.pos.line)).getD 0) then some id else none | _ => none).length != ts.length)
theorem parW_ok {ts vs : List Expr} {kt k2 : Nat} {pt pt2 : Pos} (h : XOk T C sc gen X) (hw : parW sc ts vs = true) : swappedStores [.Tuple ts kt pt] (.Tuple vs k2 pt2) X.env = pure none := by
  unfold parW at hw
  rw [Bool.or_eq_true, Bool.or_eq_true] at hw
  rcases hw with (hw | hw) | hw
  · exact sw_folded hw
  · exact sw_many (by simpa using hw)
  · refine sw_cell ?_
    have e : X.env.scope = sc := h.sc
    unfold PySem.Env.kindOf
    rw [e]
    exact hw
theorem asgEach {es : List Expr} {k : Nat} {p : Pos} (env : PySem.Env) : (assignEach [.Tuple es k p] env).map (·.2) = [assign (.Tuple es k p) env] := rfl
theorem sn_parT {ts es : List Expr} {kt k2 : Nat} {pt pt2 : Pos} {tg : Tg} {l : List (Str × Nat)} {el : EL} (k : COk T C) (h : SOk T C sc gen X) (htg : tgOf T (.Tuple ts kt pt) = some (tg, l)) (hp : parC T sc l = true) (hw : parW sc ts es = true) (he : SndP C X (flg T l) es el) :
    PS X (.Assign [.Tuple ts kt pt] (.Tuple es k2 pt2) pos) (tS C ((flg T l).map (·.2)) (ex C.call C.fuel (.par (flg T l) el))) := by
  have g := (tgOf_ok (X := X) h.x.calm (by rw [h.x.N]; exact k.nd) h.x.K htg (par_st h hp)).1
  have e : tg = .tp ((flg T l).map (·.2)) := by
    unfold tgOf at htg
    dsimp only at htg
    cases hl : nmL T ts with
    | none => rw [hl] at htg; cases htg
    | some l' => rw [hl] at htg; cases htg; rw [flg_snd]
  rw [e] at g
  exact st_parT h.x.K he.p (par_fit k hp) g (sws_of rfl _ _) (parW_ok h.x hw) rfl
theorem sn_unp {ts : List Expr} {kt : Nat} {pt : Pos} {tg : Tg} {l : List (Str × Nat)} (k : COk T C) (h : SOk T C sc gen X) (htg : tgOf T (.Tuple ts kt pt) = some (tg, l)) (hp : parC T sc l = true) (hu : unpC T l = true) (he : SndE C X e te) (hs : noCp e = true) (ht : noTup e = true) :
    PS X (.Assign [.Tuple ts kt pt] e pos) (tS C (l.map (·.2)) (ex C.call C.fuel (.unp (l.map (·.2)) te))) := by
  have g := (tgOf_ok (X := X) h.x.calm (by rw [h.x.N]; exact k.nd) h.x.K htg (par_st h hp)).1
  have e : tg = .tp (l.map (·.2)) := by
    unfold tgOf at htg
    dsimp only at htg
    cases hl : nmL T ts with
    | none => rw [hl] at htg; cases htg
    | some l' => rw [hl] at htg; cases htg; rfl
  rw [e] at g
  obtain ⟨u1, u2⟩ := unp_pl (sc := sc) k hp hu
  exact st_unp he.esc g (sws_of hs _ _) (stores_of ht _) rfl u1 u2
theorem sn_unl {ts : List Expr} {kt : Nat} {pt : Pos} {tg : Tg} {l : List (Str × Nat)} (k : COk T C) (h : SOk T C sc gen X) (htg : tgOf T (.Tuple ts kt pt) = some (tg, l)) (hp : parC T sc l = true) (hu : unpC T l = true) (he : SndE C X e te) (hs : noCp e = true) (ht : noTup e = true) :
    PS X (.Assign [.Tuple ts kt pt] e pos) (tS C (l.map (·.2)) (ex C.call C.fuel (.unl (l.map (·.2)) te))) := by
  have e : tg = .tp (l.map (·.2)) ∧ nmL T ts = some l := by
    unfold tgOf at htg
    dsimp only at htg
    cases hl : nmL T ts with
    | none => rw [hl] at htg; cases htg
    | some l' => rw [hl] at htg; cases htg; exact ⟨rfl, rfl⟩
  obtain ⟨k1, k2, k3⟩ := nmL_ok (X := X) (K := C.K) (by rw [h.x.N]; exact k.nd) e.2 (par_st h hp)
  have g := L2.pg_lst (pos := pt) (k := kt) h.x.calm k1 (n := (l.map (·.2)).length) (by rw [k2, List.length_map]) k3
  rw [h.x.K] at g
  obtain ⟨u1, u2⟩ := unp_pl (sc := sc) k hp hu
  exact st_unl he.esc g (sws_of hs _ _) (stores_of ht _) rfl u1 u2
theorem sn_par2 {x y : Str} {px py pt pt2 : Pos} {kt k2 i j : Nat} {o1 o2 : Bool} {el : EL} (k : COk T C) (h : SOk T C sc gen X) (hi : T.N[i]? = some x) (hj : T.N[j]? = some y) (hij : i ≠ j) (hx : sc.names.lookup x = some .local) (hy : sc.names.lookup y = some .local) (hn : (x == y) = false) (hl : (py.line == px.line) = true)
    (na : nost a = true) (nb : nost b = true) (hf : ([a, b].all (foldedForSure 8)) = false) (hc : ([a, b].all (constantsAlone 8)) = false) (ft : PFit C [(o1, i), (o2, j)]) (he : SndP C X [(o1, i), (o2, j)] [a, b] el) :
    PS X (.Assign [.Tuple [.Name x px, .Name y py] kt pt] (.Tuple [a, b] k2 pt2) pos) (tS C [i, j] (ex C.call C.fuel (.par [(o1, i), (o2, j)] el))) := by
  have hx' := plainP (i := i) h.x hx
  have hy' := plainP (i := j) h.x hy
  have hk : X.env.scope.kind = .function := by rw [h.x.sc]; exact h.kind
  exact st_par2 h.x.calm (by rw [h.x.N]; exact k.nd) (by rw [h.x.N]; exact hi) (by rw [h.x.N]; exact hj) hij hx' hy' he.p ft (sw_two hk hx' hy' hl hn na nb hf hc) (sws_of rfl _ _)
theorem sn_par3 {x y z : Str} {px py pz pt pt2 : Pos} {kt k2 i j m : Nat} {o1 o2 o3 : Bool} {el : EL} (k : COk T C) (h : SOk T C sc gen X) (hi : T.N[i]? = some x) (hj : T.N[j]? = some y) (hm : T.N[m]? = some z) (hij : i ≠ j) (him : i ≠ m) (hjm : j ≠ m) (hx : sc.names.lookup x = some .local) (hy : sc.names.lookup y = some .local) (hz : sc.names.lookup z = some .local)
    (hxy : (x == y) = false) (hxz : (x == z) = false) (hyz : (y == z) = false) (hl : (py.line == px.line) = true) (hl2 : (pz.line == px.line) = true)
    (na : nost a = true) (nb : nost b = true) (nc : nost c = true) (hf : ([a, b, c].all (foldedForSure 8)) = false) (hc : ([a, b, c].all (constantsAlone 8)) = false) (ft : PFit C [(o1, i), (o2, j), (o3, m)]) (he : SndP C X [(o1, i), (o2, j), (o3, m)] [a, b, c] el) :
    PS X (.Assign [.Tuple [.Name x px, .Name y py, .Name z pz] kt pt] (.Tuple [a, b, c] k2 pt2) pos) (tS C [i, j, m] (ex C.call C.fuel (.par [(o1, i), (o2, j), (o3, m)] el))) := by
  have hx' := plainP (i := i) h.x hx
  have hy' := plainP (i := j) h.x hy
  have hz' := plainP (i := m) h.x hz
  have hk : X.env.scope.kind = .function := by rw [h.x.sc]; exact h.kind
  exact st_par3 h.x.calm (by rw [h.x.N]; exact k.nd) (by rw [h.x.N]; exact hi) (by rw [h.x.N]; exact hj) (by rw [h.x.N]; exact hm) hij him hjm hx' hy' hz' he.p ft (sw_three hk hx' hy' hz' hl hl2 hxy hxz hyz na nb nc hf hc) (sws_of rfl _ _)
/-! #### a changed slot -/
theorem assign_sub {o i : Expr} {p : Pos} (hs : noSlice i = true) (env : PySem.Env) (v : Value) : assign (.Subscript o i p) env v = (do
      let ov ← holding [v] (eval o env)
      let iv ← holding [v, ov] (eval i env)
      standAt p
      holding [v, ov, iv] (setItem ov iv v)
      release [v, ov, iv] []) := by
  cases i <;> first | (cases hs; done) | rfl
structure MuM (T : TC) (sc : Scope) (x : Str) where
  i : Nat
  a : T.N[i]? = some x
  v : visC sc x = true
  d : dunC x = true
  c : T.c i = .mu
def muM (T : TC) (sc : Scope) (x : Str) : Option (MuM T sc x) := match T.N.findIdx? (· == x) with
  | some i => if h : T.N[i]? = some x ∧ visC sc x = true ∧ dunC x = true ∧ T.c i = .mu then some ⟨i, h.1, h.2.1, h.2.2.1, h.2.2.2⟩ else none
  | none => none
theorem sn_sti {x : Str} {p1 p2 : Pos} {ik : Expr} {tk : E} (k : COk T C) (h : SOk T C sc gen X) (m : MuM T sc x) (he : SndE C X e te) (hk : SndE C X ik tk) (hs : noCp e = true) (ht : noTup e = true) (hn : noSlice ik = true) :
    PS X (.Assign [.Subscript (.Name x p1) ik p2] e pos) (tS C [] (ex C.call C.fuel (.sti m.i tk te))) := by
  obtain ⟨d1, d2⟩ := dun_of m.d
  exact st_sti (by have := h.x.room.un; omega) (by rw [h.x.N]; exact m.a) (by rw [h.x.sc]; exact vis_of m.v) d1 d2 (by rw [k.cl]; exact m.c) he.esc hk.esc (assign_sub hn _) (sws_of hs _ _) (stores_of ht _)
theorem sw_subs {env : PySem.Env} {a b c d : Expr} {p1 p2 pt pt2 : Pos} {kt k2 : Nat} {vs : List Expr} : swappedStores [.Tuple [.Subscript a b p1, .Subscript c d p2] kt pt] (.Tuple vs k2 pt2) env = pure none := sw_cell rfl
theorem sn_swp {x y : Str} {p1 p2 p3 p4 pt pt2 : Pos} {kt k2 : Nat} {ia ib e1 e2 : Expr} {tia tib t1 t2 : E} (k : COk T C) (h : SOk T C sc gen X) (m : MuM T sc x) (hxy : y = x) (h1 : SndE C X e1 t1) (h2 : SndE C X e2 t2) (ha : SndE C X ia tia) (hb : SndE C X ib tib) (na : noSlice ia = true) (nb : noSlice ib = true) :
    PS X (.Assign [.Tuple [.Subscript (.Name x p1) ia p2, .Subscript (.Name y p3) ib p4] kt pt] (.Tuple [e1, e2] k2 pt2) pos) (tS C [] (ex C.call C.fuel (.swp m.i tia tib t1 t2))) := by
  subst hxy
  obtain ⟨d1, d2⟩ := dun_of m.d
  exact st_swp (by have := h.x.room.un; omega) h.x.K h.x.calm (by rw [h.x.N]; exact m.a) (by rw [h.x.sc]; exact vis_of m.v) d1 d2 (by rw [k.cl]; exact m.c) h1.esc h2.esc h1.nos h2.nos ha.esc hb.esc (assign_sub na _) (assign_sub nb _) (sws_of rfl _ _) sw_subs
theorem sn_app {x y : Str} {p1 apos cpos : Pos} (k : COk T C) (h : SOk T C sc gen X) (m : MuM T sc x) (hy : y = "append") (he : SndE C X e te) (hl : (apos.endLine == cpos.line) = true) : PS X (.Expr (.Call (.Attribute (.Name x p1) y apos) [e] [] cpos) pos) (tS C [] (ex C.call C.fuel (.app m.i te))) := by
  subst hy
  obtain ⟨d1, d2⟩ := dun_of m.d
  exact st_app (by rw [h.x.N]; exact m.a) (by rw [h.x.sc]; exact vis_of m.v) d1 d2 (by rw [k.cl]; exact m.c) h.x.K he.esc he.nos hl
theorem sn_rtf {x : Str} {p' : Pos} (k : COk T C) (h : SOk T C sc gen X) (m : MuM T sc x) (h0 : m.i ≠ 0) : PS X (.Return (some (.Name x p')) pos) (tS C [] (ex C.call C.fuel (.rtf m.i))) := by
  obtain ⟨d1, d2⟩ := dun_of m.d
  exact st_rtf (by rw [h.x.N]; exact m.a) (by rw [h.x.sc]; exact vis_of m.v) (by rw [k.cl]; exact m.c) h0 d1 d2
theorem sn_never {st : Stmt} : PS X st (tS C [] (ex C.call C.fuel (.exp .stk))) := PS.imp ps_never fun D σ H ⟨N, G, ε, F, w⟩ => w
/-- raise X() -/
theorem sn_rse0 {x : Str} {n : Nat} {p1 p2 : Pos} (k : COk T C) (h : SOk T C sc gen X) (hg : glC sc x = true) (hd : dunC x = true) (hx : T.gs.lookup x = some (.exc n none)) : PS X (.Raise (some (.Call (.Name x p1) [] [] p2)) none pos) (tS C [] (ex C.call C.fuel (.rse n .nil))) := by
  obtain ⟨c, m1, m2, m3, m4, m5, m6⟩ := k.exc x n none hx
  have hK := h.x.K
  refine PS.imp (ps_raise h.x.calm h.tk (PT.pmk_own0 PySem.F.excBase_ValueError (by rw [hK]; exact m3) (by rw [h.x.mg]; exact m1) (by rw [hK]; exact m2) (raises_own (by rw [hK]; exact m4) (by rw [hK]; exact m5)) (gl_of h.x hg) (dun_of hd).1)) fun D σ H ⟨N, G, ε, F, w⟩ => ?_
  exact w G H (.ref c) none F.go (m6 H)
theorem upd_over {H : Hp} {a d : Addr} {o1 o2 o3 o4 : HO} (hd : d ≠ a) (ha : H a = none) : upd (del (upd (upd (upd H a o1) d o2) a o3) a) d o4 = upd H d o4 := by
  funext b
  by_cases hb : b = d
  · rw [hb, upd_same, upd_same]
  · rw [upd_ne hb, upd_ne hb]
    by_cases hc : b = a
    · rw [hc, del_same, ha]
    · rw [del_ne hc, upd_ne hc, upd_ne hb, upd_ne hc]
/-- raise X(e), X's __init__ storing e -/
theorem sn_rse1 {x f : Str} {n : Nat} {te : E} {p1 p2 : Pos} (k : COk T C) (h : SOk T C sc gen X) (hg : glC sc x = true) (hd : dunC x = true) (hx : T.gs.lookup x = some (.exc n (some f))) (he : SndE C X e te) : PS X (.Raise (some (.Call (.Name x p1) [e] [] p2)) none pos) (tS C [] (ex C.call C.fuel (.rse n (.cons te .nil)))) := by
  obtain ⟨c, fI, fd, ps, m1, m2, m3, m4, m5, m6, m7⟩ := k.exc x n (some f) hx
  have hK := h.x.K
  have rm : Room (1 + 1) X.A := h.x.room.mono (by have := k.lv; omega)
  refine PS.imp (ps_raise h.x.calm h.tk (pmk_oex (k := 1) (CX := C8.CX0) (T := by rw [hK]; exact m2) (iC := by rw [hK]; exact m3) (tI := by rw [hK]; exact m4) (F1 := by rw [h.x.prog, h.x.w, hK, h.x.mg, h.x.base]; exact m5) (hr := rm) (hb := by rw [hK]; exact m6) (hd := .nil) (hx := C8.pass0)
    (hg := gl_of h.x hg) (hm := by rw [h.x.mg]; exact m1) (ha := pa_cons he.esc pa_nil (star_c (es := []) he.nos _)) (hdb := (dun_of hd).1) (he := star_c (es := []) he.nos _) (hpl := rfl))) fun D σ H ⟨N, G, ε, F, w⟩ => ⟨N, G, ε, F, ?_⟩
  have w' : SQ C N σ G [] D ((ev C.call te .esc ε).bind fun p => (payD [p.1]).bind fun x => .er n x) := by
    have e : ex C.call C.fuel (.rse n (.cons te .nil)) ε = ((ev C.call te .esc ε).bind fun p => (payD [p.1]).bind fun x => .er n x) := by
      simp only [ex, evL]
      cases ev C.call te .esc ε <;> rfl
    rw [← e]
    exact w
  refine (SQ.bind F w').imp fun d G1 H1 ε1 F1 g1 w1 v rv => ⟨by show 1 ≤ 1000; decide, fun a ha => ⟨a, v, rfl, upd_same, fun dx n1 n2 => ⟨rfl, dx, [(f, v)], upd_same, ?_, ?_, ?_⟩⟩⟩
  · rw [upd_ne n2, upd_same]
  · rw [upd_ne n2] at n1
    exact n1
  · rw [upd_ne n2] at n1
    rw [upd_over n2 ha]
    have im : ∃ y, payD [d] = .ok y ∧ Imm y v := by
      cases d with
      | non => exact ⟨.non, rfl, by have rv : v = .non := rv; rw [rv]; exact .non⟩
      | int i => exact ⟨.int i, rfl, by have rv : v = .int i := rv; rw [rv]; exact .int i⟩
      | _ => exact w1.elim
    obtain ⟨y, e1, im⟩ := im
    dsimp only at w1
    rw [e1] at w1
    have g2 := (F1.newH (o := .xd [(f, v)]) n1).2
    exact w1 G1 _ (.ref c) (some dx) (F1.go.trans (g2.weak fun _ z => z.elim)) (m7 _ dx y v im upd_same)
end
/-! #### the translation -/
section
variable {T : TC} {sc : Scope} {gen : Bool}
def trSs (f : (st : Stmt) → Option (TrS T sc gen st)) : (b : List Stmt) → Option (TrSs T sc gen b)
  | [] => some ⟨.nil, [], fun C X k h => bs_nil⟩
  | s :: r => match f s, trSs f r with
    | some a, some q => some ⟨.cons a.t q.t, a.as ++ q.as, fun C X k h => bs_cons (a.ok C X k h) (q.ok C X k h)⟩
    | none, some q => some ⟨.cons (.exp .stk) q.t, [] ++ q.as, fun C X k h => bs_cons sn_never (q.ok C X k h)⟩
    | _, _ => none
variable (n : Nat)
/-- two names, a changed slot's list and a value -/
def trMvp (x y : Str) (px py pt pt2 pos : Pos) (kt k2 : Nat) (a b : Expr) : Option (TrS T sc gen (.Assign [.Tuple [.Name x px, .Name y py] kt pt] (.Tuple [a, b] k2 pt2) pos)) := match a with
  | .Name z pz => match muM T sc z, plN T sc x, plN T sc y, trE T n sc gen b with
    | some m, some mx, some my, some rb =>
      if h1 : m.i ≠ 0 ∧ mx.i ≠ my.i ∧ sc.names.lookup x = some .local ∧ sc.names.lookup y = some .local ∧ (x == y) = false ∧ (py.line == px.line) = true ∧ nost b = true ∧ ([.Name z pz, b].all (foldedForSure 8)) = false ∧ ([.Name z pz, b].all (constantsAlone 8)) = false then
        some ⟨.mvp m.i mx.i my.i rb.t, [mx.i, my.i], fun C X k h => by
          obtain ⟨q0, q1, q2, q3, q4, q5, q6, q7, q8⟩ := h1
          obtain ⟨d1, d2⟩ := dun_of m.d
          have hx' := plainP (i := mx.i) h.x q2
          have hy' := plainP (i := my.i) h.x q3
          have hk : X.env.scope.kind = .function := by rw [h.x.sc]; exact h.kind
          exact st_mvp h.x.calm (by rw [h.x.N]; exact k.nd) (by rw [h.x.N]; exact mx.a) (by rw [h.x.N]; exact my.a) (by rw [h.x.N]; exact m.a) q1 q0 hx' hy' (by rw [h.x.sc]; exact vis_of m.v) d1 d2 (by rw [k.cl]; exact m.c) (by rw [k.cl]; exact mx.c) (by rw [k.cl]; exact my.c) (lt_of k mx.a) (lt_of k my.a) (rb.ok C X k h.x).esc (rb.ok C X k h.x).nos (sw_two hk hx' hy' q5 q4 rfl q6 q7 q8) (sws_of rfl _ _)⟩ else none
    | _, _, _, _ => none
  | _ => none
/-- several names, several values -/
def trPar (ts : List Expr) (kt : Nat) (pt : Pos) (es : List Expr) (k2 : Nat) (pt2 : Pos) (pos : Pos) : Option (TrS T sc gen (.Assign [.Tuple ts kt pt] (.Tuple es k2 pt2) pos)) :=
  match htg : tgOf T (.Tuple ts kt pt) with
  | none => none
  | some (tg, l) => if hp : parC T sc l = true then
      match trP (fun e => trE T n sc gen e) (flg T l) es with
      | none => none
      | some r => if hw : parW sc ts es = true then some ⟨.par (flg T l) r.t, (flg T l).map (·.2), fun C X k h => sn_parT k h htg hp hw (r.ok C X k h.x)⟩ else none
    else none
def trPar2 (x y : Str) (px py pt pt2 pos : Pos) (kt k2 : Nat) (a b : Expr) : Option (TrS T sc gen (.Assign [.Tuple [.Name x px, .Name y py] kt pt] (.Tuple [a, b] k2 pt2) pos)) :=
  match T.N.findIdx? (· == x), T.N.findIdx? (· == y) with
  | some i, some j =>
    if h1 : T.N[i]? = some x ∧ T.N[j]? = some y ∧ i ≠ j ∧ sc.names.lookup x = some .local ∧ sc.names.lookup y = some .local ∧ (x == y) = false ∧ (py.line == px.line) = true ∧ nost a = true ∧ nost b = true ∧ ([a, b].all (foldedForSure 8)) = false ∧ ([a, b].all (constantsAlone 8)) = false ∧ parC T sc [(x, i), (y, j)] = true then
      match trP (T := T) (sc := sc) (gen := gen) (fun e => trE T n sc gen e) [(decide (T.c i = .mu), i), (decide (T.c j = .mu), j)] [a, b] with
      | some r => some ⟨.par [(decide (T.c i = .mu), i), (decide (T.c j = .mu), j)] r.t, [i, j], fun C X k h => sn_par2 k h h1.1 h1.2.1 h1.2.2.1 h1.2.2.2.1 h1.2.2.2.2.1 h1.2.2.2.2.2.1 h1.2.2.2.2.2.2.1 h1.2.2.2.2.2.2.2.1 h1.2.2.2.2.2.2.2.2.1 h1.2.2.2.2.2.2.2.2.2.1 h1.2.2.2.2.2.2.2.2.2.2.1 (par_fit k h1.2.2.2.2.2.2.2.2.2.2.2) (r.ok C X k h.x)⟩
      | none => none
    else none
  | _, _ => none
def trPar3 (x y z : Str) (px py pz pt pt2 pos : Pos) (kt k2 : Nat) (a b c : Expr) : Option (TrS T sc gen (.Assign [.Tuple [.Name x px, .Name y py, .Name z pz] kt pt] (.Tuple [a, b, c] k2 pt2) pos)) :=
  match T.N.findIdx? (· == x), T.N.findIdx? (· == y), T.N.findIdx? (· == z) with
  | some i, some j, some m =>
    if h1 : (T.N[i]? = some x ∧ T.N[j]? = some y ∧ T.N[m]? = some z) ∧ (i ≠ j ∧ i ≠ m ∧ j ≠ m) ∧ (sc.names.lookup x = some .local ∧ sc.names.lookup y = some .local ∧ sc.names.lookup z = some .local) ∧ ((x == y) = false ∧ (x == z) = false ∧ (y == z) = false) ∧ ((py.line == px.line) = true ∧ (pz.line == px.line) = true) ∧ (nost a = true ∧ nost b = true ∧ nost c = true) ∧ ([a, b, c].all (foldedForSure 8)) = false ∧ ([a, b, c].all (constantsAlone 8)) = false ∧ parC T sc [(x, i), (y, j), (z, m)] = true then
      match trP (T := T) (sc := sc) (gen := gen) (fun e => trE T n sc gen e) [(decide (T.c i = .mu), i), (decide (T.c j = .mu), j), (decide (T.c m = .mu), m)] [a, b, c] with
      | some r => some ⟨.par [(decide (T.c i = .mu), i), (decide (T.c j = .mu), j), (decide (T.c m = .mu), m)] r.t, [i, j, m], fun C X k h => by
          obtain ⟨⟨q1, q2, q3⟩, ⟨q4, q5, q6⟩, ⟨q7, q8, q9⟩, ⟨r1, r2, r3⟩, ⟨r4, r5⟩, ⟨r6, r7, r8⟩, r9, s1, s2⟩ := h1
          exact sn_par3 k h q1 q2 q3 q4 q5 q6 q7 q8 q9 r1 r2 r3 r4 r5 r6 r7 r8 r9 s1 (par_fit k s2) (r.ok C X k h.x)⟩
      | none => none
    else none
  | _, _, _ => none
/-- name = [..] -/
def trLcS (x : Str) (p' : Pos) (elt tgE iter : Expr) (ifs : List Expr) (scope : Scope) (p pos : Pos) : Option (TrS T sc gen (.Assign [.Name x p'] (.ListComp elt [⟨tgE, iter, ifs, .ofNat 0⟩] scope p) pos)) :=
  match htg : tgOf T tgE, trI (T := T) (sc := sc) (gen := gen) (fun e => trE T n sc gen e) tgE iter, trT (fun e => trE T n (relS scope sc) gen e) ifs, trE T n (relS scope sc) gen elt with
  | some (tg, l), some ri, some rt, some re =>
    if hb : blkC T sc scope l = true ∧ ownC T scope l = true ∧ (!ri.q || (rt.t.pur && re.t.pur)) = true then
      if hs : sc.names.lookup x = some .local ∧ (p'.line == p.line) = true ∧ (scope.names.any fun (n, k) => n == x && (k == .local || k == .cell)) = false then
        (match plN T sc x with
        | some m => some ⟨.asg m.i (.lc tg ri.t rt.t re.t), [m.i], fun C X k h => by
            obtain ⟨te', h1, h2⟩ := lc_parts k h.x htg hb.1 hb.2.1 (ri.ok C X k h.x) hb.2.2 (fun X' h' => rt.ok C.cut X' k.cut h') (fun X' h' => re.ok C.cut X' k.cut h') (i := m.i) (y := x) (py := p') (spos := pos) (pos := p) (by rw [h.x.N]; exact m.a) (plainP (i := m.i) h.x hs.1) (swl_true (by rw [h.x.sc]; exact h.kind) (plainP (i := m.i) h.x hs.1) hs.2.1 hs.2.2)
            exact st_asgR h1 (fun σ H Q w => h2 σ H Q (tr_frx w)) (by rw [k.cl]; exact m.c) (lt_of k m.a)⟩
        | none => match owN T sc x with
          | some m => some ⟨.own m.i (.lc tg ri.t rt.t re.t), [m.i], fun C X k h => by
              obtain ⟨te', h1, h2⟩ := lc_parts k h.x htg hb.1 hb.2.1 (ri.ok C X k h.x) hb.2.2 (fun X' h' => rt.ok C.cut X' k.cut h') (fun X' h' => re.ok C.cut X' k.cut h') (i := m.i) (y := x) (py := p') (spos := pos) (pos := p) (by rw [h.x.N]; exact m.a) (plainP (i := m.i) h.x hs.1) (swl_true (by rw [h.x.sc]; exact h.kind) (plainP (i := m.i) h.x hs.1) hs.2.1 hs.2.2)
              exact st_ownR h1 h2 (by rw [k.cl]; exact m.c) m.z (lt_of k m.a)⟩
          | none => none)
      else if hs : (decide (sc.names.lookup x = some .local)) = false then
        (match plN T sc x with
        | some m => some ⟨.asg m.i (.lc tg ri.t rt.t re.t), [m.i], fun C X k h =>
            st_asg (by rw [h.x.N]; exact k.nd) (by rw [h.x.N]; exact m.a) (by rw [h.x.sc]; exact loc_of m.l) (snd_lc k h.x htg hb.1 hb.2.1 (ri.ok C X k h.x) hb.2.2 (fun X' h' => rt.ok C.cut X' k.cut h') (fun X' h' => re.ok C.cut X' k.cut h')).esc (swl_false (by rw [h.x.sc]; exact hs)) (.inl (h.fn _)) (by rw [k.cl]; exact m.c) (lt_of k m.a)⟩
        | none => match owN T sc x with
          | some m => some ⟨.own m.i (.lc tg ri.t rt.t re.t), [m.i], fun C X k h =>
              st_own (by rw [h.x.N]; exact k.nd) (by rw [h.x.N]; exact m.a) (by rw [h.x.sc]; exact loc_of m.l) ((snd_lc k h.x htg hb.1 hb.2.1 (ri.ok C X k h.x) hb.2.2 (fun X' h' => rt.ok C.cut X' k.cut h') (fun X' h' => re.ok C.cut X' k.cut h')).frx rfl) (swl_false (by rw [h.x.sc]; exact hs)) (.inl (h.fn _)) (by rw [k.cl]; exact m.c) m.z (lt_of k m.a)⟩
          | none => none)
      else none
    else none
  | _, _, _, _ => none
/-- name = {..} -/
def trDcS (x : Str) (p' : Pos) (kx vx tgE iter : Expr) (ifs : List Expr) (scope : Scope) (p pos : Pos) : Option (TrS T sc gen (.Assign [.Name x p'] (.DictComp kx vx [⟨tgE, iter, ifs, .ofNat 0⟩] scope p) pos)) :=
  match htg : tgOf T tgE, trI (T := T) (sc := sc) (gen := gen) (fun e => trE T n sc gen e) tgE iter, trT (fun e => trE T n (relS scope sc) gen e) ifs, trE T n (relS scope sc) gen kx, trE T n (relS scope sc) gen vx with
  | some (tg, l), some ri, some rt, some rk, some re =>
    if hb : blkC T sc scope l = true ∧ ownC T scope l = true ∧ (!ri.q || (rt.t.pur && (rk.t.pur && re.t.pur))) = true then
      if hs : sc.names.lookup x = some .local ∧ (p'.line == p.line) = true ∧ (scope.names.any fun (n, k) => n == x && (k == .local || k == .cell)) = false then
        (match plN T sc x with
        | some m => some ⟨.asg m.i (.dc tg ri.t rt.t rk.t re.t), [m.i], fun C X k h => by
            obtain ⟨te', h1, h2⟩ := dc_parts k h.x htg hb.1 hb.2.1 (ri.ok C X k h.x) hb.2.2 (fun X' h' => rt.ok C.cut X' k.cut h') (fun X' h' => rk.ok C.cut X' k.cut h') (fun X' h' => re.ok C.cut X' k.cut h') (i := m.i) (y := x) (py := p') (spos := pos) (pos := p) (by rw [h.x.N]; exact m.a) (plainP (i := m.i) h.x hs.1) (PT.swd_true (by rw [h.x.sc]; exact h.kind) (plainP (i := m.i) h.x hs.1) hs.2.1 hs.2.2)
            exact st_asgR h1 (fun σ H Q w => h2 σ H Q (tr_frx w)) (by rw [k.cl]; exact m.c) (lt_of k m.a)⟩
        | none => match owN T sc x with
          | some m => some ⟨.own m.i (.dc tg ri.t rt.t rk.t re.t), [m.i], fun C X k h => by
              obtain ⟨te', h1, h2⟩ := dc_parts k h.x htg hb.1 hb.2.1 (ri.ok C X k h.x) hb.2.2 (fun X' h' => rt.ok C.cut X' k.cut h') (fun X' h' => rk.ok C.cut X' k.cut h') (fun X' h' => re.ok C.cut X' k.cut h') (i := m.i) (y := x) (py := p') (spos := pos) (pos := p) (by rw [h.x.N]; exact m.a) (plainP (i := m.i) h.x hs.1) (PT.swd_true (by rw [h.x.sc]; exact h.kind) (plainP (i := m.i) h.x hs.1) hs.2.1 hs.2.2)
              exact st_ownR h1 h2 (by rw [k.cl]; exact m.c) m.z (lt_of k m.a)⟩
          | none => none)
      else none
    else none
  | _, _, _, _, _ => none
/-- name = value -/
def trAsg (x : Str) (p' : Pos) (e : Expr) (pos : Pos) : Option (TrS T sc gen (.Assign [.Name x p'] e pos)) :=
  match trE T n sc gen e with
  | none => none
  | some r => if hs : noCp e = true then
      (match plN T sc x with
      | some m => some ⟨.asg m.i r.t, [m.i], fun C X k h => sn_asg k h m (r.ok C X k h.x) hs⟩
      | none => match owN T sc x with
        | some m => if hf : r.t.isF = true then some ⟨.own m.i r.t, [m.i], fun C X k h => sn_own k h m (r.ok C X k h.x) hf hs⟩ else none
        | none => none)
    else none
def trUnp (ts : List Expr) (kt : Nat) (pt : Pos) (e : Expr) (pos : Pos) : Option (TrS T sc gen (.Assign [.Tuple ts kt pt] e pos)) :=
  match htg : tgOf T (.Tuple ts kt pt), trE T n sc gen e with
  | some (tg, l), some r => if hp : parC T sc l = true ∧ unpC T l = true ∧ noCp e = true ∧ noTup e = true then (if r.t.isF = true then some ⟨.unl (l.map (·.2)) r.t, l.map (·.2), fun C X k h => sn_unl k h htg hp.1 hp.2.1 (r.ok C X k h.x) hp.2.2.1 hp.2.2.2⟩ else some ⟨.unp (l.map (·.2)) r.t, l.map (·.2), fun C X k h => sn_unp k h htg hp.1 hp.2.1 (r.ok C X k h.x) hp.2.2.1 hp.2.2.2⟩) else none
  | _, _ => none
end
def trS (T : TC) : Nat → (sc : Scope) → (gen : Bool) → (st : Stmt) → Option (TrS T sc gen st)
  | 0, _, _, _ => none
  | n + 1, sc, gen, st => match st with
    | .Pass p => some ⟨.pas, [], fun C X k h => st_pas⟩
    | .Break p => some ⟨.brk, [], fun C X k h => st_brk⟩
    | .Continue p => some ⟨.cnt, [], fun C X k h => st_cnt⟩
    | .Expr (.Constant (.str x) j p') p => some ⟨.pas, [], fun C X k h => st_doc⟩
    | .Expr (.Call (.Attribute (.Name x p1) y apos) [e] [] cpos) p => if hy : y = "append" ∧ (apos.endLine == cpos.line) = true then
        match muM T sc x, trE T n sc gen e with
        | some m, some r => some ⟨.app m.i r.t, [], fun C X k h => sn_app k h m hy.1 (r.ok C X k h.x) hy.2⟩
        | _, _ => none
      else none
    | .Expr e p => match trE T n sc gen e with
      | some r => if hs : noCp e = true then some ⟨.exp r.t, [], fun C X k h => st_exp (r.ok C X k h.x).bor (sw_of hs _ _ _)⟩ else none
      | none => none
    | .Return none p => some ⟨.ret (.c .non), [], fun C X k h => st_retN⟩
    | .Return (some (.Name x p')) p => (match muM T sc x with
      | some m => if h0 : m.i ≠ 0 then some ⟨.rtf m.i, [], fun C X k h => sn_rtf k h m h0⟩ else none
      | none => match trE T n sc gen (.Name x p') with
        | some r => some ⟨.ret r.t, [], fun C X k h => st_ret (r.ok C X k h.x).esc⟩
        | none => none)
    | .Return (some e) p => match trE T n sc gen e with
      | some r => some ⟨.ret r.t, [], fun C X k h => st_ret (r.ok C X k h.x).esc⟩
      | none => none
    | .If c a b p => match trE T n sc gen c, trSs (fun s => trS T n sc gen s) a, trSs (fun s => trS T n sc gen s) b with
      | some rc, some ra, some rb => some ⟨.ifs rc.t ra.t rb.t, ra.as ++ rb.as, fun C X k h => st_ifs (rc.ok C X k h.x).tst (ra.ok C X k h) (rb.ok C X k h)⟩
      | _, _, _ => none
    | .While c b [] p => match trE T n sc gen c, trSs (fun s => trS T n sc gen s) b with
      | some rc, some rb => some ⟨.whl rc.t rb.t, rb.as, fun C X k h => st_whl h.own (rc.ok C X k h.x).tst (rb.ok C X k h)⟩
      | _, _ => none
    | .For tgE (.Name x p') b [] p => match htg : tgOf T tgE, trSs (fun s => trS T n sc gen s) b with
      | some (tg, l), some rb => if hp : parC T sc l = true ∧ unpC T l = true then
          (match muN T sc x with
          | some m => if hm : m.i ∉ rb.as then some ⟨.fox tg m.i rb.t, tg.slots ++ rb.as, fun C X k h => by
              obtain ⟨u1, u2⟩ := unp_pl (sc := sc) k hp.1 hp.2
              rw [tgOf_slots htg] at u1 u2
              obtain ⟨d1, d2⟩ := dun_of m.d
              exact st_fox h.own h.x.calm u1 u2 (by rw [h.x.N]; exact m.a) (by rw [h.x.sc]; exact vis_of m.v) (by rw [k.cl]; exact m.c) hm d1 d2 (tgOf_ok (X := X) h.x.calm (by rw [h.x.N]; exact k.nd) h.x.K htg (par_st h hp.1)).1 (rb.ok C X k h)⟩ else none
          | none => match trE T n sc gen (.Name x p') with
            | some ri => some ⟨.for tg (.seq ri.t) rb.t, tg.slots ++ rb.as, fun C X k h => by
                obtain ⟨u1, u2⟩ := unp_pl (sc := sc) k hp.1 hp.2
                rw [tgOf_slots htg] at u1 u2
                exact st_for h.own h.x.calm u1 u2 ((sndi_seq h.x (ri.ok C X k h.x) rfl).i tg (tgFit htg)) (tgOf_ok (X := X) h.x.calm (by rw [h.x.N]; exact k.nd) h.x.K htg (par_st h hp.1)).1 (rb.ok C X k h) (fold_of rfl _)⟩
            | none => none)
        else none
      | _, _ => none
    | .For tgE iter b [] p => match htg : tgOf T tgE, trI (T := T) (sc := sc) (gen := gen) (fun e => trE T n sc gen e) tgE iter, trSs (fun s => trS T n sc gen s) b with
      | some (tg, l), some ri, some rb => if hp : parC T sc l = true ∧ unpC T l = true then
          if hq : ri.q = false then some ⟨.for tg ri.t rb.t, tg.slots ++ rb.as, fun C X k h => by
            obtain ⟨u1, u2⟩ := unp_pl (sc := sc) k hp.1 hp.2
            rw [tgOf_slots htg] at u1 u2
            have hi := ri.ok C X k h.x
            rw [hq] at hi
            exact st_for h.own h.x.calm u1 u2 (hi.i tg (tgFit htg)) (tgOf_ok (X := X) h.x.calm (by rw [h.x.N]; exact k.nd) h.x.K htg (par_st h hp.1)).1 (rb.ok C X k h) (fold_of hi.s _)⟩ else none
        else none
      | _, _, _ => none
    | .Assign [.Name x p'] (.ListComp elt [⟨tgE, iter, ifs, .ofNat 0⟩] scope p) pos => trLcS n x p' elt tgE iter ifs scope p pos
    | .Assign [.Name x p'] (.DictComp kx vx [⟨tgE, iter, ifs, .ofNat 0⟩] scope p) pos => trDcS n x p' kx vx tgE iter ifs scope p pos
    | .Assign [.Name x p'] e pos => trAsg n x p' e pos
    | .Assign [.Tuple [.Name x px, .Name y py] kt pt] (.Tuple [a, b] k2 pt2) pos => match trMvp (T := T) (sc := sc) (gen := gen) n x y px py pt pt2 pos kt k2 a b with
      | some r => some r
      | none => match trPar2 (T := T) (sc := sc) (gen := gen) n x y px py pt pt2 pos kt k2 a b with
      | some r => some r
      | none => trPar n [.Name x px, .Name y py] kt pt [a, b] k2 pt2 pos
    | .Assign [.Tuple [.Name x px, .Name y py, .Name z pz] kt pt] (.Tuple [a, b, c] k2 pt2) pos => match trPar3 (T := T) (sc := sc) (gen := gen) n x y z px py pz pt pt2 pos kt k2 a b c with
      | some r => some r
      | none => trPar n [.Name x px, .Name y py, .Name z pz] kt pt [a, b, c] k2 pt2 pos
    | .Assign [.Tuple [.Subscript (.Name x p1) ia p2, .Subscript (.Name y p3) ib p4] kt pt] (.Tuple [e1, e2] k2 pt2) pos =>
      if hh : y = x ∧ noSlice ia = true ∧ noSlice ib = true then
        match muM T sc x, trE T n sc gen e1, trE T n sc gen e2, trE T n sc gen ia, trE T n sc gen ib with
        | some m, some r1, some r2, some ra, some rb => some ⟨.swp m.i ra.t rb.t r1.t r2.t, [], fun C X k h => sn_swp k h m hh.1 (r1.ok C X k h.x) (r2.ok C X k h.x) (ra.ok C X k h.x) (rb.ok C X k h.x) hh.2.1 hh.2.2⟩
        | _, _, _, _, _ => none
      else none
    | .Assign [.Tuple ts kt pt] (.Tuple es k2 pt2) pos => trPar n ts kt pt es k2 pt2 pos
    | .Assign [.Tuple ts kt pt] e pos => trUnp n ts kt pt e pos
    | .Assign [.Subscript (.Name x p1) ik p2] e pos => if hh : noCp e = true ∧ noTup e = true ∧ noSlice ik = true then
        match muM T sc x, trE T n sc gen e, trE T n sc gen ik with
        | some m, some r, some rk => some ⟨.sti m.i rk.t r.t, [], fun C X k h => sn_sti k h m (r.ok C X k h.x) (rk.ok C X k h.x) hh.1 hh.2.1 hh.2.2⟩
        | _, _, _ => none
      else none
    | .Raise (some (.Call (.Name x p1) [] [] p2)) none p => match hx : T.gs.lookup x with
      | some (.exc m none) => if h : glC sc x = true ∧ dunC x = true then some ⟨.rse m .nil, [], fun C X k h' => sn_rse0 k h' h.1 h.2 hx⟩ else none
      | _ => none
    | .Raise (some (.Call (.Name x p1) [e] [] p2)) none p => match hx : T.gs.lookup x, trE T n sc gen e with
      | some (.exc m (some f)), some r => if h : glC sc x = true ∧ dunC x = true then some ⟨.rse m (.cons r.t .nil), [], fun C X k h' => sn_rse1 k h' h.1 h.2 hx (r.ok C X k h'.x)⟩ else none
      | _, _ => none
    | .Raise _ _ _ => some ⟨.exp .stk, [], fun C X k h => sn_never⟩
    | _ => none
end Ev
/-! ### a def keeps its promise; all defs, by the depth of calls -/
namespace Ev
open PySem PySem.Spec PyProof.Rows L2
def DefI.tc (d : DefI) (gs : List (Str × GV)) (fs : List FI) : TC := ⟨d.N, d.cl, gs, fs, d.lam⟩
/-- the def translated -/
def cmp (gs : List (Str × GV)) (fs : List FI) (d : DefI) : Option (TrSs (d.tc gs fs) d.scope d.gen d.body) := trSs (fun s => trS (d.tc gs fs) 300 d.scope d.gen s) d.body
/-- a look at a def -/
def dC (d : DefI) : Bool := C8.scC d.N d.ps d.scope && (decide (d.np ≤ d.N.length) && ((decide (d.cl.length ≤ d.N.length)) && ((List.range d.np).all (fun i => !decide (d.cl.getD i .pl = .mu) || (decide (i = 0) && d.m0)) && (!d.m0 || (decide (d.cl.getD 0 .pl = .mu) && decide (0 < d.np))))))
structure DOk (d : DefI) : Prop where
  sc : FnScope d.N d.ps d.scope
  np : d.np ≤ d.N.length
  mu : ∀ i, i < d.np → d.cl.getD i .pl = .mu → i = 0 ∧ d.m0 = true
  m0 : d.m0 = true → d.cl.getD 0 .pl = .mu ∧ 0 < d.np
theorem dok_of {d : DefI} (h : dC d = true) : DOk d := by
  unfold dC at h
  rw [Bool.and_eq_true, Bool.and_eq_true, Bool.and_eq_true, Bool.and_eq_true] at h
  obtain ⟨h1, h2, _, h4, h5⟩ := h
  refine ⟨C8.fnScope_by h1, of_decide_eq_true h2, fun i hi hc => ?_, fun hm => ?_⟩
  · have q := List.all_eq_true.mp h4 i (List.mem_range.mpr hi)
    rw [hc] at q
    simpa using q
  · rw [hm] at h5
    simpa using h5
section
variable {C : Cn} {d : DefI} {gs : List (Str × GV)} {fs : List FI}
theorem ps_len (k : DOk d) : d.ps.length = d.np := by
  unfold DefI.ps
  rw [List.length_take]
  have := k.np
  omega
/-- the state at the entry -/
theorem fr_start {G H : Hp} {ds : List D} {vs : List V} (k : DOk d) (hN : C.N = d.N) (hcl : C.cl = fun i => d.cl.getD i .pl) (sub : Sub G H) (ntb : ∀ b ps, G b ≠ some (.tbl ps)) (tab : ∀ P ∈ C.tabs, TbOk H P) (l1 : ds.length = d.np) (l2 : vs.length = d.np)
    (pa : ∀ (j : Nat) (x : D) (v : V), ds[j]? = some x → vs[j]? = some v → PaR C G H (d.fi.cl j) x v) (un : ∀ (i j : Nat) (a : Addr), d.fi.cl i ≠ .pl → d.fi.cl j = .mu → vs[i]? = some (.ref a) → vs[j]? = some (.ref a) → i = j) :
    Fr C ⟨G, H, ioOf d.m0 vs⟩ G H (ds.map some ++ List.replicate (d.N.length - d.np) none) (L2.start d.N vs) := by
  have np := k.np
  have atE : ∀ {i : Nat} {x : D}, (ds.map some ++ List.replicate (d.N.length - d.np) none)[i]? = some (some x) → ds[i]? = some x ∧ i < d.np := fun {i x} e => by
    by_cases hi : i < ds.length
    · rw [List.getElem?_append_left (by simpa using hi), List.getElem?_map] at e
      cases q : ds[i]? with
      | none => rw [q] at e; cases e
      | some y => rw [q] at e; cases e; exact ⟨rfl, by rw [← l1]; exact hi⟩
    · rw [List.getElem?_append_right (by simpa using hi), List.getElem?_replicate] at e
      split at e <;> cases e
  have atS : ∀ {i : Nat} {v : V}, (L2.start d.N vs)[i]? = some (some v) → vs[i]? = some v ∧ i < d.np := fun {i v} e => by
    unfold L2.start at e
    by_cases hi : i < vs.length
    · rw [List.getElem?_append_left (by simpa using hi), List.getElem?_map] at e
      cases q : vs[i]? with
      | none => rw [q] at e; cases e
      | some y => rw [q] at e; cases e; exact ⟨rfl, by rw [← l2]; exact hi⟩
    · rw [List.getElem?_append_right (by simpa using hi), List.getElem?_replicate] at e
      split at e <;> cases e
  have toS : ∀ {i : Nat} {v : V}, vs[i]? = some v → (L2.start d.N vs)[i]? = some (some v) := fun {i v} e => by
    have hi := (List.getElem?_eq_some_iff.mp e).1
    unfold L2.start
    rw [List.getElem?_append_left (by simpa using hi), List.getElem?_map, e]
    rfl
  have both : ∀ {i : Nat} {x : D}, (ds.map some ++ List.replicate (d.N.length - d.np) none)[i]? = some (some x) → ∃ v, vs[i]? = some v ∧ (L2.start d.N vs)[i]? = some (some v) ∧ PaR C G H (d.cl.getD i .pl) x v := fun {i x} e => by
    obtain ⟨e1, hi⟩ := atE e
    have hv : i < vs.length := by omega
    exact ⟨vs[i], List.getElem?_eq_getElem hv, toS (List.getElem?_eq_getElem hv), pa i x _ e1 (List.getElem?_eq_getElem hv)⟩
  have datum : ∀ {i : Nat} {v : V}, vs[i]? = some v → ∃ x, ds[i]? = some x ∧ PaR C G H (d.cl.getD i .pl) x v := fun {i v} e => by
    have hi := (List.getElem?_eq_some_iff.mp e).1
    have hd : i < ds.length := by omega
    exact ⟨ds[i], List.getElem?_eq_getElem hd, pa i _ v (List.getElem?_eq_getElem hd) e⟩
  refine ⟨sub, ntb, tab, ?_, ?_, fun i x c e => ?_, fun i x c e => ?_, fun i x c e => ?_, fun i x c e => ?_, fun i j a c1 c2 h1 h2 => ?_, fun i a c h => ?_, Go.refl _ _ _ _, fun i a c h => ?_, fun a ha => ?_⟩
  · unfold L2.start
    rw [List.length_append, List.length_append, List.length_map, List.length_map, List.length_replicate, List.length_replicate, l1, l2]
  · unfold L2.start
    rw [hN, List.length_append, List.length_map, List.length_replicate]
    omega
  · rw [hcl] at c
    obtain ⟨v, _, h2, h3⟩ := both e
    have c : d.cl.getD i .pl = .pl := c
    rw [c] at h3
    exact ⟨v, h2, h3⟩
  · rw [hcl] at c
    obtain ⟨v, _, h2, h3⟩ := both e
    have c : d.cl.getD i .pl = .mu := c
    rw [c] at h3
    obtain ⟨a, rfl, h4⟩ := h3
    exact ⟨a, h2, h4⟩
  · rw [hcl] at c
    obtain ⟨v, _, h2, h3⟩ := both e
    have c : d.cl.getD i .pl = .bo := c
    rw [c] at h3
    exact ⟨v, h2, h3.2⟩
  · rw [hcl] at c
    obtain ⟨v, _, h2, h3⟩ := both e
    have c : d.cl.getD i .pl = .bo := c
    rw [c] at h3
    exact h3.1
  · rw [hcl] at c1 c2
    exact un i j a c1 c2 (atS h1).1 (atS h2).1
  · rw [hcl] at c
    obtain ⟨x, _, r⟩ := datum (atS h).1
    have c : d.cl.getD i .pl ≠ .pl := c
    cases hk : d.cl.getD i .pl with
    | pl => exact absurd hk c
    | mu =>
      rw [hk] at r
      obtain ⟨a', e, t⟩ := r
      cases e
      obtain ⟨o, ho, _⟩ := t.there
      rw [ho]
      simp
    | bo =>
      rw [hk] at r
      obtain ⟨hc, t⟩ := r
      cases x with
      | lst xs =>
        obtain ⟨b, ys, e, h1, _⟩ := t
        cases e
        rw [h1]
        simp
      | dct xs =>
        obtain ⟨b, e, t⟩ := t
        cases e
        obtain ⟨ks, h1, _⟩ := t
        rw [h1]; simp
      | dtt xs =>
        obtain ⟨b, e, t⟩ := t
        cases e
        obtain ⟨ks, h1, _⟩ := t
        rw [h1]; simp
      | _ => cases hc
  · rw [hcl] at c
    obtain ⟨e1, hi⟩ := atS h
    obtain ⟨rfl, hm⟩ := k.mu i hi c
    refine .inr ?_
    unfold ioOf
    rw [if_pos hm]
    cases vs with
    | nil => cases e1
    | cons v r => cases e1; rfl
  · obtain ⟨hm, r, rfl⟩ := ioOf_some ha
    obtain ⟨c0, hp⟩ := k.m0 hm
    have e1 : (V.ref a :: r)[0]? = some (V.ref a) := rfl
    refine ⟨by rw [hcl]; exact c0, toS e1, ?_⟩
    have hd : 0 < ds.length := by omega
    refine ⟨ds[0], ?_⟩
    rw [List.getElem?_append_left (by simpa using hd), List.getElem?_map, List.getElem?_eq_getElem hd]
    rfl
/-- the promise, from the body's reading -/
theorem body_ok {H : Hp} {vs : List V} {Q : VK} {E : XK} {b : SL} {as : List Nat} (k : DOk d) (hN : C.N = d.N) (hcl : C.cl = fun i => d.cl.getD i .pl) (hW : C.W = E) (h : spF C d.fi (runF C.call C.fuel ⟨d.np, d.N.length, d.m0, b⟩) vs H Q E) :
    tS C as (exs C.call C.fuel b) { nx := fun _ H' => Q .non H', rt := Q } (L2.start d.N vs) H := by
  obtain ⟨G, ds, sub, ntb, tab, l1, l2, pa, un, w⟩ := h
  have l1 : ds.length = d.np := l1
  have l2 : vs.length = d.np := l2
  have F := fr_start (C := C) k hN hcl sub ntb tab l1 l2 pa un
  refine ⟨_, G, _, F, ?_⟩
  unfold runF at w
  rw [if_pos l1] at w
  have outer : ∀ {ε' : Env} {r : D} {G' H' : Hp} {v : V}, RtOk C ⟨G, H, ioOf d.m0 vs⟩ G' H' ε' r v →
      (match ((if d.m0 = true then getE ε' 0 else .ok .non).bind fun o => (.ok (r, o) : Res (D × D))) with
      | .ok r => ∀ G' H' v, Sub G' H' → (∀ b ps, G' b ≠ some (.tbl ps)) → Go C.tabs (fun b => ioOf d.m0 vs = some b) G H G' H' → Rp C.K C.fa G' r.1 v → (∀ a, ioOf d.m0 vs = some a → TopM C.K C.fa G' H' r.2 a) → Q v H'
      | .er c x => ∀ G' H' cls dd, Go C.tabs (fun b => ioOf d.m0 vs = some b) G H G' H' → C.exr c x cls dd H' → E cls dd H'
      | .no => False) → Q v H' := fun {ε' r G' H' v} ro w => by
    by_cases hm : d.m0 = true
    · rw [if_pos hm] at w
      cases hg : getE ε' 0 with
      | no => rw [hg] at w; exact w.elim
      | er c x => exact absurd hg (getE_ne ε' 0 c x)
      | ok o =>
        rw [hg] at w
        refine w G' H' v ro.sub ro.ntb ro.go ro.rp fun a ha => ?_
        obtain ⟨d0, e0, t0⟩ := ro.io a ha
        rw [getE_ok hg] at e0
        cases e0
        exact t0
    · rw [if_neg hm] at w
      refine w G' H' v ro.sub ro.ntb ro.go ro.rp fun a ha => ?_
      obtain ⟨hm', _⟩ := ioOf_some ha
      exact absurd hm' hm
  revert w
  cases hx : exs C.call C.fuel b (ds.map some ++ List.replicate (d.N.length - d.np) none) with
  | no => exact fun w => w.elim
  | er c x => exact fun w G' H' cls dd g e => by rw [hW]; exact w G' H' cls dd g e
  | ok q =>
    obtain ⟨fl, ε'⟩ := q
    cases fl with
    | nx => exact fun w G' H' σ' F' s kp => outer (F'.rt (d := .non) (v := .non) rfl) w
    | rt r => exact fun w G' H' v ro => outer ro w
    | bk => exact fun w => w.elim
    | ct => exact fun w => w.elim
end
/-! #### all defs -/
/-- what is the same for all defs of a run -/
structure Run where
  prog : Program
  w : World
  K : PySem.W.Frag
  mg : Str → Option Value
  base : Heap
  fa : Nat → Option Addr
  tabs : List Tab
  exa : Nat → Option (Addr × Option Str)
/-- an exception: its class's number, its datum -/
def exrOf (exa : Nat → Option (Addr × Option Str)) (n : Nat) (y : D) (cls : Value) (dd : Option Addr) (H : Hp) : Prop := ∃ c f, exa n = some (c, f) ∧ cls = .ref c ∧ match f with
  | none => y = .non ∧ dd = none
  | some g => ∃ d v, dd = some d ∧ Imm y v ∧ H d = some (.xd [(g, v)])
theorem exr_imm {exa : Nat → Option (Addr × Option Str)} {n : Nat} {y : D} {cls : Value} {dd : Option Addr} {H : Hp} (h : exrOf exa n y cls dd H) : ∃ v, Imm y v := by
  obtain ⟨c, f, _, _, h⟩ := h
  cases f with
  | none => exact ⟨.non, by rw [h.1]; exact .non⟩
  | some g =>
    obtain ⟨d, v, _, im, _⟩ := h
    exact ⟨v, im⟩
def Run.cn (R : Run) (d : DefI) (call : Nat → List D → Res (D × D)) (fuel lev : Nat) (W : XK) : Cn := ⟨R.prog, R.w, R.K, R.mg, R.base, R.fa, R.tabs, d.N, fun i => d.cl.getD i .pl, call, fuel, lev, W, exrOf R.exa, L2.CX R.prog R.w⟩
/-- what is the same for all defs -/
def Run.cn0 (R : Run) : Cn := ⟨R.prog, R.w, R.K, R.mg, R.base, R.fa, R.tabs, [], fun _ => .pl, fun _ _ => .no, 0, 0, fun _ _ _ => False, exrOf R.exa, L2.CX R.prog R.w⟩
/-- the promise of def n at depth k -/
def Run.sp (R : Run) (d : DefI) (call : List D → Res (D × D)) : Sp := spF (R.cn d (fun _ _ => .no) 0 0 fun _ _ _ => False) d.fi call
structure DefF (R : Run) (d : DefI) (f : Addr) (fd : FuncData) : Prop where
  fn : FunD R.K d.name d.name d.args d.body d.scope [] [] f fd
  mg : R.mg d.name = some (.ref f)
  b : Binds R.K fd d.ps []
  tab : d.gen = true → ∀ cdv (oc : Value) (od : Option Addr) (dV kV doc pm : Value) (an : Option Addr) (ct : Value) (osl : Array (Option Value)), R.K.lookup f = some ⟨oc, od, .func (PySem.W.fnOf d.name d.name d.args d.body d.scope dV kV doc pm an cdv ct), osl⟩ → ∃ cA P, cdv = .ref cA ∧ (P, d.lq) ∈ R.tabs ∧ GxR.TabB R.base R.mg cA P
theorem fst_of {R : Run} {d : DefI} {f : Addr} {fd : FuncData} (F : DefF R d f fd) (h : d.isF = true) : PT.FstD R.K f := by
  obtain ⟨oc, od, dV, kV, doc, pm, an, cdv, ct, osl, rfl, lk, hcd, _, _⟩ := F.fn.ex
  have b := F.b
  unfold DefI.isF at h
  split at h
  · rename_i x p1 kk p2 p3 p4 y hb hp
    rw [hb] at lk b
    rw [hp] at b
    simp only [Bool.and_eq_true, decide_eq_true_eq, Bool.not_eq_true'] at h
    obtain ⟨rfl, h2, h3, h4⟩ := h
    exact ⟨d.name, d.name, x, d.args, d.scope, p1, p2, p3, p4, kk, dV, kV, doc, pm, an, cdv, ct, oc, od, osl, lk, hcd, C8.fnScope_by h4, h2, h3, b⟩
  · cases h
structure Globs (R : Run) (gs : List (Str × GV)) (ds : List DefI) : Prop where
  blt : ∀ x, gs.lookup x = some .blt → R.mg x = none
  con : ∀ x d, gs.lookup x = some (.con d) → ∃ u v, R.mg x = some u ∧ RelV v u ∧ ∀ G, Rp R.K R.fa G d v
  fn : ∀ x n d, gs.lookup x = some (.fn n) → ds[n]? = some d → d.name = x
  fct : ∀ x, gs.lookup x = some .fct → R.mg x = some (.builtin "math.factorial")
  tbu : ∀ p ∈ R.tabs, ∀ p' ∈ R.tabs, p.1 = p'.1 → p.2 = p'.2
  exc : ∀ x n f, gs.lookup x = some (.exc n f) → ExOk R.cn0 x n f
  tld : ∀ x val ws, gs.lookup x = some (.tld val ws) → TldOk R.cn0 x val ws
theorem fn_one {R : Run} {gs : List (Str × GV)} {ds : List DefI} {d : DefI} {f : Addr} {fd : FuncData} {call : Nat → List D → Res (D × D)} {fuel lev : Nat} (hlv : 2 ≤ lev) (g : Globs R gs ds) (k : DOk d) (F : DefF R d f fd)
    (ih : ∀ n e, ds[n]? = some e → ∃ f fd, DefF R e f fd ∧ FnOk R.prog R.w R.K R.mg R.base (L2.CX R.prog R.w) lev f fd e.ps (R.sp e (call n))) (r : TrSs (d.tc gs (ds.map DefI.fi)) d.scope d.gen d.body) :
    FnOk R.prog R.w R.K R.mg R.base (L2.CX R.prog R.w) (lev + 3) f fd d.ps (R.sp d (runF call fuel ⟨d.np, d.N.length, d.m0, r.t⟩)) := by
  obtain ⟨oc, od, dV, kV, doc, pm, an, cdv0, ct, osl, rfl, lk, hcd, _, _⟩ := F.fn.ex
  refine fn_of (k := lev + 2) lk hcd k.sc (fun vs H Q E h => ?_) fun A outer s H vs Q E hr hsp => ?_
  · obtain ⟨G, dd, _, _, _, _, l2, _⟩ := h
    rw [ps_len k]
    exact l2
  · have co : COk (d.tc gs (ds.map DefI.fi)) (R.cn d call fuel lev E) := by
      refine ⟨rfl, rfl, k.sc.nd, g.blt, g.con, fun x n I hx hI => ?_, fun x n I hx hI hf => ?_, g.fct, rfl, g.tbu, fun x n f hx => (by have q := g.exc x n f hx; cases f <;> exact q), g.tld, fun n y cls dd H z => exr_imm z, hlv⟩
      rotate_left
      · have hI : (ds.map DefI.fi)[n]? = some I := hI
        rw [List.getElem?_map] at hI
        cases hd : ds[n]? with
        | none => rw [hd] at hI; cases hI
        | some e =>
          rw [hd] at hI
          cases hI
          obtain ⟨f', fd', F', ok'⟩ := ih n e hd
          have hn := g.fn x n e hx hd
          refine ⟨f', ?_, fst_of F' hf⟩
          show R.mg x = _
          rw [← hn]
          exact F'.mg
      have hI : (ds.map DefI.fi)[n]? = some I := hI
      rw [List.getElem?_map] at hI
      cases hd : ds[n]? with
      | none => rw [hd] at hI; cases hI
      | some e =>
        rw [hd] at hI
        cases hI
        obtain ⟨f', fd', F', ok'⟩ := ih n e hd
        have hn := g.fn x n e hx hd
        refine ⟨f', fd', e.ps, ok', ?_, F'.fn.kp, F'.b⟩
        show R.mg x = _
        rw [← hn]
        exact F'.mg
    have so : SOk (d.tc gs (ds.map DefI.fi)) (R.cn d call fuel lev E) d.scope d.gen (cxOf (L2.CX R.prog R.w) R.prog R.w R.K R.mg R.base d.N d.name d.scope f cdv0 A outer s H E) := by
      refine ⟨⟨rfl, rfl, rfl, rfl, rfl, rfl, rfl, rfl, ?_, fun hg => ?_, passes_call (W := fun cls d _ H => E cls d H) (takes_of rfl rfl rfl rfl) fun _ _ _ _ z => z⟩, passes_of rfl, fun _ => rfl, k.sc.kind, takes_of rfl rfl rfl rfl⟩
      · cases d.gen with
        | true => exact hr
        | false => exact hr.mono (Nat.le_add_right _ _)
      · obtain ⟨cA, P, e1, e2, e3⟩ := F.tab hg cdv0 oc od dV kV doc pm an ct osl lk
        exact ⟨cA, P, e1, e2, e3⟩
    exact ⟨_, r.ok _ _ co so, body_ok (C := R.cn d call fuel lev E) k rfl rfl rfl hsp⟩
/-- the code of all defs -/
structure CodeOk (gs : List (Str × GV)) (ds : List DefI) (code : List Fn) : Prop where
  len : code.length = ds.length
  at_ : ∀ (n : Nat) (d : DefI) (F : Fn), ds[n]? = some d → code[n]? = some F → ∃ r : TrSs (d.tc gs (ds.map DefI.fi)) d.scope d.gen d.body, F = ⟨d.np, d.N.length, d.m0, r.t⟩
theorem all_ok {R : Run} {gs : List (Str × GV)} {ds : List DefI} {code : List Fn} {fuel : Nat} (g : Globs R gs ds) (dk : ∀ (n : Nat) (d : DefI), ds[n]? = some d → DOk d) (cd : CodeOk gs ds code) (F : ∀ (n : Nat) (d : DefI), ds[n]? = some d → ∃ f fd, DefF R d f fd) :
    ∀ (k n : Nat) (d : DefI), ds[n]? = some d → ∃ f fd, DefF R d f fd ∧ FnOk R.prog R.w R.K R.mg R.base (L2.CX R.prog R.w) (3 * k + 2) f fd d.ps (R.sp d (callK code fuel k n))
  | 0, n, d, hd => by
    obtain ⟨f, fd, hF⟩ := F n d hd
    refine ⟨f, fd, hF, ⟨fun vs H Q E h => ?_, fun A outer s H args us vs Q E _ _ _ _ h => ?_⟩⟩
    · obtain ⟨G, dd, _, _, _, _, _, _, _, w⟩ := h
      exact w.elim
    · obtain ⟨G, dd, _, _, _, _, _, _, _, w⟩ := h
      exact w.elim
  | k + 1, n, d, hd => by
    obtain ⟨f, fd, hF⟩ := F n d hd
    have hl : n < code.length := by rw [cd.len]; exact (List.getElem?_eq_some_iff.mp hd).1
    obtain ⟨r, hr⟩ := cd.at_ n d _ hd (List.getElem?_eq_getElem hl)
    have e : callK code fuel (k + 1) n = runF (callK code fuel k) fuel ⟨d.np, d.N.length, d.m0, r.t⟩ := by
      funext a
      show (match code[n]? with | some F => runF (callK code fuel k) fuel F a | none => .no) = _
      rw [List.getElem?_eq_getElem hl, hr]
    refine ⟨f, fd, hF, ?_⟩
    rw [e, show 3 * (k + 1) + 2 = (3 * k + 2) + 3 by omega]
    exact fn_one (by omega) g (dk n d hd) hF (fun m e he => all_ok g dk cd F k m e he) r
end Ev
/-! ### the law's end -/
namespace Ev
open PySem PySem.Spec PyProof.Rows L2
theorem scV_ok {K : PySem.W.Frag} {fa : Nat → Option Addr} {d : D} {v : V} (h : scV d = some v) (G : Hp) : Rp K fa G d v := by
  cases d with
  | non => cases h; exact rfl
  | bl b => cases h; exact rfl
  | int i => cases h; exact rfl
  | str x =>
    have h : (if PyData.strOk x = true then some (V.str x) else none) = some v := h
    by_cases hs : PyData.strOk x = true
    · rw [if_pos hs] at h
      cases h
      exact ⟨rfl, hs⟩
    · rw [if_neg hs] at h
      cases h
  | _ => cases h
theorem scL_ok {K : PySem.W.Frag} {fa : Nat → Option Addr} {G : Hp} : ∀ {ds : List D} {vs : List V}, scL ds = some vs → RpL K fa G ds vs
  | [], vs, h => by cases h; exact rfl
  | d :: ds, vs, h => by
    unfold scL at h
    split at h
    · rename_i v r h1 h2
      cases h
      exact ⟨v, r, rfl, scV_ok h1 G, scL_ok h2⟩
    · cases h
theorem conB_ok {K : PySem.W.Frag} {fa : Nat → Option Addr} {h : Heap} {mg : Str → Option Value} (X : K.In h) (G : h.Ns mainGlobals mg) {x : Str} {d : D} (c : conB K x d = true) : ∃ u v, mg x = some u ∧ RelV v u ∧ ∀ G, Rp K fa G d v := by
  unfold conB at c
  cases e : PySem.W.nsIn K mainGlobals x with
  | none => rw [e] at c; cases c
  | some o =>
    rw [e] at c
    cases o with
    | none => cases c
    | some u =>
      have hm := PySem.W.mg_of X G e
      have sc : ∀ v, scV d = some v → He.relB v u = true → ∃ u v, mg x = some u ∧ RelV v u ∧ ∀ G, Rp K fa G d v := fun v h1 h2 => ⟨u, v, hm, He.relB_ok h2, fun G => scV_ok h1 G⟩
      have scal : (match scV d with | some v => He.relB v u | none => false) = true → ∃ u v, mg x = some u ∧ RelV v u ∧ ∀ G, Rp K fa G d v := fun c => by
        cases q : scV d with
        | none => rw [q] at c; cases c
        | some v => rw [q] at c; exact sc v q c
      cases d with
      | rol ds =>
        dsimp only at c
        cases hu : u with
        | ref a =>
          rw [hu] at c
          cases hs : scL ds with
          | none => rw [hs] at c; cases c
          | some vs =>
            rw [hs] at c
            dsimp only at c
            split at c
            · rename_i cc its nn osl hk
              rw [Bool.and_eq_true, Bool.and_eq_true] at c
              obtain ⟨c1, c2, c3⟩ := c
              have c1 := of_decide_eq_true c1
              have c2 := of_decide_eq_true c2
              subst c1
              refine ⟨.ref a, .ref a, by rw [hm, hu], rfl, fun G => ⟨a, vs, rfl, .inr ⟨_, its, nn, hk, rfl, rfl, rfl, Nat.le_trans c2 (by decide), He.relAll_ok c3⟩, scL_ok hs⟩⟩
            · cases c
        | _ => rw [hu] at c; cases c
      | _ => exact scal c
/-- the code fits the defs -/
def CdL (gs : List (Str × GV)) (fs : List FI) : List DefI → List Fn → Prop
  | [], [] => True
  | d :: ds, F :: Fs => (∃ b, (cmp gs fs d).map (·.t) = some b ∧ F = ⟨d.np, d.N.length, d.m0, b⟩) ∧ CdL gs fs ds Fs
  | _, _ => False
theorem cdL_len {gs : List (Str × GV)} {fs : List FI} : ∀ {ds : List DefI} {code : List Fn}, CdL gs fs ds code → code.length = ds.length
  | [], [], _ => rfl
  | _ :: _, _ :: _, ⟨_, h⟩ => congrArg Nat.succ (cdL_len h)
theorem cdL_at {gs : List (Str × GV)} {fs : List FI} : ∀ {ds : List DefI} {code : List Fn}, CdL gs fs ds code → ∀ (n : Nat) (d : DefI) (F : Fn), ds[n]? = some d → code[n]? = some F → ∃ b, (cmp gs fs d).map (·.t) = some b ∧ F = ⟨d.np, d.N.length, d.m0, b⟩
  | [], [], _, n, d, F, h1, _ => by simp at h1
  | e :: ds, G :: code, ⟨h, r⟩, 0, d, F, h1, h2 => by cases h1; cases h2; exact h
  | e :: ds, G :: code, ⟨h, r⟩, n + 1, d, F, h1, h2 => cdL_at r n d F h1 h2
theorem code_ok {gs : List (Str × GV)} {ds : List DefI} {code : List Fn} (h : CdL gs (ds.map DefI.fi) ds code) : CodeOk gs ds code := by
  refine ⟨cdL_len h, fun n d F h1 h2 => ?_⟩
  obtain ⟨b, e, hF⟩ := cdL_at h n d F h1 h2
  cases hc : cmp gs (ds.map DefI.fi) d with
  | none => rw [hc] at e; cases e
  | some r =>
    rw [hc] at e
    cases e
    exact ⟨r, hF⟩
/-- the names' numbers fit -/
def gsC (gs : List (Str × GV)) (ds : List DefI) : Bool := gs.all fun p => match p.2 with
  | .fn n => (match ds[n]? with
    | some d => decide (d.name = p.1)
    | none => true)
  | _ => true
theorem lookup_mem' {α β : Type} [BEq α] [LawfulBEq α] {x : α} {y : β} : ∀ {l : List (α × β)}, l.lookup x = some y → (x, y) ∈ l
  | [], h => by cases h
  | (a, b) :: r, h => by
    rw [List.lookup_cons] at h
    cases q : (x == a) with
    | true =>
      rw [q] at h
      have : b = y := Option.some.inj h
      rw [eq_of_beq q, this]
      exact List.mem_cons_self
    | false =>
      rw [q] at h
      exact List.mem_cons_of_mem _ (lookup_mem' h)
/-- the classes of exceptions by number -/
def exaOf (gs : List (Str × GV)) (K : PySem.W.Frag) (n : Nat) : Option (Addr × Option Str) := gs.findSome? fun p => match p.2 with
  | .exc m f => if m = n then some (He.ga K p.1, f) else none
  | _ => none
def tabsOf (ds : List DefI) (K : PySem.W.Frag) : List Tab := (ds.filter (·.gen)).map fun d => ((He.cT K (d.name, none)).2, d.lq)
def runOf (l : PySem.W.OpenLaw) (w : World) (K : PySem.W.Frag) (mg : Str → Option Value) (gs : List (Str × GV)) (ds : List DefI) (base : Heap) : Run := ⟨l.prog, w, K, mg, base, fun _ => none, tabsOf ds K, exaOf gs K⟩
/-- what the classes of exceptions and the def that tells must be -/
def ExcAll (gs : List (Str × GV)) (R : Run) : Prop := (∀ x n f, gs.lookup x = some (.exc n f) → ExOk R.cn0 x n f) ∧ ∀ x val ws, gs.lookup x = some (.tld val ws) → TldOk R.cn0 x val ws
def gsN (gs : List (Str × GV)) : Bool := gs.all fun p => match p.2 with
  | .exc _ _ | .tld _ _ => false
  | _ => true
theorem exc_none {gs : List (Str × GV)} {R : Run} (h : gsN gs = true) : ExcAll gs R := And.intro
  (fun x n f e => (by
    have q := List.all_eq_true.mp h _ (lookup_mem' e)
    cases q))
  (fun x v ws e => (by
    have q := List.all_eq_true.mp h _ (lookup_mem' e)
    cases q))
theorem nodup_key {α β γ : Type} {f : α → β} {g : α → γ} : ∀ {l : List α}, (l.map f).Nodup → ∀ p ∈ l.map (fun x => (f x, g x)), ∀ p' ∈ l.map (fun x => (f x, g x)), p.1 = p'.1 → p.2 = p'.2
  | [], _, p, hp, _, _, _ => by cases hp
  | a :: l, hn, p, hp, p', hp', e => by
    rw [List.map_cons] at hn hp hp'
    obtain ⟨h1, h2⟩ := List.nodup_cons.mp hn
    have out : ∀ q ∈ l.map (fun x => (f x, g x)), q.1 ≠ f a := fun q hq z => by
      obtain ⟨x, hx, rfl⟩ := List.mem_map.mp hq
      exact h1 (by rw [← z]; exact List.mem_map.mpr ⟨x, hx, rfl⟩)
    rcases List.mem_cons.mp hp with rfl | hp
    · rcases List.mem_cons.mp hp' with rfl | hp'
      · rfl
      · exact absurd e.symm (out p' hp')
    · rcases List.mem_cons.mp hp' with rfl | hp'
      · exact absurd e (out p hp)
      · exact nodup_key h2 p hp p' hp' e
theorem law_at {l : PySem.W.OpenLaw} {w : World} {K : PySem.W.Frag} {h : Heap} {mg : Str → Option Value} {fA : Addr} {gs : List (Str × GV)} {ds : List DefI} {code : List Fn} {fuel k ln : Nat} {lw : DefI} {x : Str} {more : List He.DefD} (X : K.In h) (G : h.Ns mainGlobals mg) (c : He.SaysX (faOf gs ds) (ds.map DefI.dd ++ more) [] (tfOf ds) (exAll gs ds) w h K)
    (hl : ds[ln]? = some lw) (hfa : mg lw.name = some (.ref fA)) (hdc : ds.all dC = true) (hgs : gsC gs ds = true) (cd : CdL gs (ds.map DefI.fi) ds code)
    (hb : ∀ (n : Nat) (d : DefI), ds[n]? = some d → ∀ (kV doc pm : Value) (an : Option Addr) (cdv ct : Value) (us : List Value), us.length = d.ps.length → bindArgs (PySem.W.fnOf d.name d.name d.args d.body d.scope .none kV doc pm an cdv ct) ⟨us, []⟩ = pure (d.ps.zip us))
    (h1 : lw.np = 1) (h2 : lw.m0 = false) (h3 : lw.cl.getD 0 .pl = .pl) (h4 : lw.ps = [x])
    (hex : ∀ base : Heap, ExcAll gs (runOf l w K mg gs ds base))
    (math : ∀ ns : List Int, ns.length ≤ 63 → ∃ o, callK code fuel k ln [.rol (ns.map .int)] = .ok (.bl true, o)) : LamX.LawAtS l w K (L2.CX l.prog w) (3 * k + 2) 63 x mg fA h := by
  have more1 : exOf gs K = true := (Bool.and_eq_true_iff.mp c.more).1
  have more2 : tabB ds K = true := (Bool.and_eq_true_iff.mp c.more).2
  have cd' := code_ok cd
  have dk : ∀ (n : Nat) (d : DefI), ds[n]? = some d → DOk d := fun n d hd => dok_of (List.all_eq_true.mp hdc d (List.mem_of_getElem? hd))
  have facts := c.t.d
  have fnD : ∀ (n : Nat) (d : DefI), ds[n]? = some d → ∃ fd, FunD K d.name d.name d.args d.body d.scope [] [] (He.ga K d.name) fd := fun n d hd => by
    obtain ⟨fd, F⟩ := facts.defs (d := d.dd) (List.mem_append_left _ (List.mem_map.mpr ⟨d, List.mem_of_getElem? hd, rfl⟩))
    exact ⟨fd, F⟩
  have glo : ∀ (n : Nat) (d : DefI), ds[n]? = some d → mg d.name = some (.ref (He.ga K d.name)) := fun n d hd =>
    He.glo_ok X G (facts.facts (f := .glo d.name) (List.mem_append_left _ (List.mem_map.mpr ⟨d, List.mem_of_getElem? hd, rfl⟩)))
  have run : ∀ base : Heap, K.In base → base.Ns mainGlobals mg → (∀ p ∈ (tfOf ds).map (He.cT K), GxR.TabB base mg p.1 p.2) →
      ∃ f fd, DefF (runOf l w K mg gs ds base) lw f fd ∧ FnOk l.prog w K mg base (L2.CX l.prog w) (3 * k + 2) f fd lw.ps (Run.sp (runOf l w K mg gs ds base) lw (callK code fuel k ln)) := fun base KB GB TB => by
    refine all_ok (R := (runOf l w K mg gs ds base)) ⟨fun y hy => ?_, fun y d hy => ?_, fun y n d hy hd => ?_, fun y hy => ?_, nodup_key (of_decide_eq_true more2), (hex base).1, (hex base).2⟩ dk cd' (fun n d hd => ?_) k ln lw hl
    · exact He.free_ok X G (facts.facts (f := .free y) (List.mem_append_right _ (List.mem_filterMap.mpr ⟨(y, .blt), lookup_mem' hy, rfl⟩)))
    · exact conB_ok X G (List.all_eq_true.mp more1 (y, .con d) (lookup_mem' hy))
    · have q := List.all_eq_true.mp hgs (y, .fn n) (lookup_mem' hy)
      dsimp only at q
      rw [hd] at q
      exact of_decide_eq_true q
    · have q := List.all_eq_true.mp more1 (y, .fct) (lookup_mem' hy)
      dsimp only at q
      split at q
      · rename_i b e
        have e2 := of_decide_eq_true q
        subst e2
        exact PySem.W.mg_of X G e
      · cases q
    · obtain ⟨fd, F⟩ := fnD n d hd
      refine ⟨He.ga K d.name, fd, F, glo n d hd, F.bindsN (hb n d hd), fun hg cdv oc od dV kV doc pm an ct osl lk => ?_⟩
      have mem : ((d.name, none) : He.Defn) ∈ tfOf ds := List.mem_map.mpr ⟨d, List.mem_filter.mpr ⟨List.mem_of_getElem? hd, hg⟩, rfl⟩
      obtain ⟨oc2, od2, dV2, kV2, doc2, pm2, an2, cdv2, ct2, osl2, e2, lk2, hcd, _, _⟩ := F.ex
      have lk' : K.lookup (He.ga K d.name) = some ⟨oc, od, .func (PySem.W.fnOf d.name d.name d.args d.body d.scope dV kV doc pm an cdv ct), osl⟩ := lk
      rw [lk'] at lk2
      have e3 : (PySem.W.fnOf d.name d.name d.args d.body d.scope dV kV doc pm an cdv ct) = fd := by
        have := congrArg Obj.data (Option.some.inj lk2)
        injection this
      rw [e2] at e3
      have e4 : cdv = cdv2 := congrArg FuncData.code e3
      rw [← e4] at hcd
      obtain ⟨cc, rfl⟩ := He.codeIn_ref hcd
      have q : He.codeOf K (d.name, none) = cc := He.codeOf_eq (K := K) (p := (d.name, none)) lk' rfl
      refine ⟨cc, (He.cT K (d.name, none)).2, rfl, List.mem_map.mpr ⟨d, List.mem_filter.mpr ⟨List.mem_of_getElem? hd, hg⟩, rfl⟩, ?_⟩
      have t := TB (He.cT K (d.name, none)) (List.mem_map.mpr ⟨_, mem, rfl⟩)
      have e5 : (He.cT K (d.name, none)).1 = cc := q
      rw [e5] at t
      exact t
  obtain ⟨fd, F⟩ := fnD ln lw hl
  have eA := glo ln lw hl
  rw [hfa] at eA
  cases eA
  refine ⟨fd, (tfOf ds).map (He.cT K), Run.sp (runOf l w K mg gs ds h) lw (callK code fuel k ln), ?_, ?_, ?_, ?_, ?_, ?_⟩
  · intro p hp
    obtain ⟨q, hq, rfl⟩ := List.mem_map.mp hp
    exact c.empty q hq
  · intro p hp
    obtain ⟨q, hq, rfl⟩ := List.mem_map.mp hp
    exact c.out q hq
  · intro p hp
    obtain ⟨q, hq, rfl⟩ := List.mem_map.mp hp
    exact PySem.W.codeHd_of_K X (c.hd q hq)
  · intro s u
    have q := FunD.bindsA (ps := lw.ps) F (hb ln lw hl) s [u] (by rw [h4] <;> rfl)
    rw [h4] at q
    exact q
  · intro H a ns hns _ hT hS
    obtain ⟨o, hm⟩ := math ns hns
    let G0 : Hp := fun b => match H b with
      | some (.tbl _) => none
      | o => o
    have gsub : Sub G0 H := fun b u e => by
      have e : (match H b with | some (.tbl _) => none | o => o) = some u := e
      cases q : H b with
      | none => rw [q] at e; cases e
      | some z => rw [q] at e; cases z <;> first | exact e | cases e
    have gtb : ∀ b ps, G0 b ≠ some (.tbl ps) := fun b ps e => by
      have e : (match H b with | some (.tbl _) => none | o => o) = some (.tbl ps) := e
      cases q : H b with
      | none => rw [q] at e; cases e
      | some z => rw [q] at e; cases z <;> first | (cases e; done) | (injection e with e; cases e)
    have hS0 : SqL K G0 a (ns.map V.int) := by
      rcases hS with (z | ⟨o, z⟩) | z
      · exact .inl (.inl (by show (match H a with | some (.tbl _) => none | o => o) = _; rw [z]))
      · exact .inl (.inr ⟨o, by show (match H a with | some (.tbl _) => none | o => o) = _; rw [z]⟩)
      · exact .inr z
    have rl : ∀ ns : List Int, RpL K (fun _ => none) G0 (ns.map .int) (ns.map V.int) := fun ns => by
      induction ns with
      | nil => exact rfl
      | cons i r ih => exact ⟨.int i, r.map V.int, rfl, rfl, ih⟩
    refine ⟨G0, [.rol (ns.map .int)], gsub, gtb, fun P hP => ?_, ?_, ?_, fun j d v e1 e2 => ?_, fun i j b c1 c2 e1 e2 => ?_, ?_⟩
    · obtain ⟨q, hq, rfl⟩ := List.mem_map.mp hP
      have e := hT (He.cT K (q.name, none)) (List.mem_map.mpr ⟨(q.name, none), List.mem_map.mpr ⟨q, hq, rfl⟩, rfl⟩)
      unfold TbOk
      dsimp only
      cases q.lq with
      | none => exact ⟨#[], e, trivial⟩
      | some lq => exact LamX.TabS.nil e
    · show 1 = lw.np
      exact h1.symm
    · show 1 = lw.np
      exact h1.symm
    · cases j with
      | zero =>
        cases e1
        cases e2
        show PaR _ G0 H (lw.cl.getD 0 .pl) _ _
        rw [h3]
        exact ⟨a, _, rfl, hS0, rl ns⟩
      | succ j => simp at e1
    · cases i with
      | zero =>
        cases j with
        | zero => rfl
        | succ j => simp at e2
      | succ i => simp at e1
    · rw [hm]
      intro G' H' v _ _ _ r _
      exact r
  · intro base KB GB TB
    obtain ⟨f', fd', F', ok⟩ := run base KB GB fun p hp => ⟨(TB p hp).code, (TB p hp).bm, (TB p hp).gP⟩
    have ef : f' = He.ga K lw.name := by
      have := F'.mg.symm.trans (glo ln lw hl)
      cases this
      rfl
    subst ef
    have efd : fd' = fd := by
      obtain ⟨_, _, _, _, _, _, _, _, _, _, _, l1, _⟩ := F'.fn.ex
      obtain ⟨_, _, _, _, _, _, _, _, _, _, _, l2, _⟩ := F.ex
      have l1' : K.lookup (He.ga K lw.name) = _ := l1
      rw [l1'] at l2
      have := congrArg Obj.data (Option.some.inj l2)
      injection this
    subst efd
    rw [← h4]
    exact ok
end Ev
/-! ### evaluation: general facts -/
namespace Ev
open PySem
theorem back_same {ε ε' : Env} {vs : List Nat} (h : wipeE ε' vs = wipeE ε vs) : backE ε ε' vs = ε := by
  have hl : ε'.length = ε.length := by
    have := congrArg List.length h
    rw [wipeE_len, wipeE_len] at this
    exact this
  apply List.ext_getElem?
  intro j
  by_cases hj : j ∈ vs
  · by_cases hlt : j < ε.length
    · have key : ∀ us : List Nat, j ∈ us → (backE ε ε' us)[j]? = ε[j]? := by
        intro us
        induction us with
        | nil => intro z; cases z
        | cons u us ih =>
          intro z
          rw [backE]
          by_cases hu : u = j
          · subst hu
            rw [List.getElem?_set_self (by rw [backE_len, hl]; exact hlt), List.getElem?_eq_getElem hlt]
            rfl
          · rw [List.getElem?_set_ne hu]
            rcases List.mem_cons.mp z with q | q
            · exact absurd q.symm hu
            · exact ih q
      exact key vs hj
    · rw [List.getElem?_eq_none (by rw [backE_len, hl]; omega), List.getElem?_eq_none (by omega)]
  · rw [backE_ne hj, ← wipeE_ne (ε := ε') hj, h, wipeE_ne hj]
section
variable {α : Type} {call : Nat → List D → Res (D × D)} {ε : Env} {tg : Tg} {it : It} {cs : EL} {e : E} {xs : List α} {m : Md} {f : α → D}
/-- what one turn of a block sees -/
def TurnA (call : Nat → List D → Res (D × D)) (tg : Tg) (cs : EL) (e : E) (ε : Env) (f : α → D) (b : α → Bool) (g : α → D) (x : α) : Prop :=
  ∃ ε1, bindT tg (f x) (wipeE ε tg.slots) = .ok ε1 ∧ wipeE ε1 tg.slots = wipeE ε tg.slots ∧ evC call cs ε1 = .ok (b x, ε1) ∧ (b x = true → ev call e .esc ε1 = .ok (g x, ε1))
theorem turn_of {b : α → Bool} {g : α → D} {x : α} (h : TurnA call tg cs e ε f b g x) : ∃ ε1, bindT tg (f x) (wipeE ε tg.slots) = .ok ε1 ∧ turnF (evC call cs) (ev call e .esc) ε1 = .ok (if b x = true then some (g x) else none, ε1) ∧ wipeE ε1 tg.slots = wipeE ε tg.slots := by
  obtain ⟨ε1, h1, h2, h3, h4⟩ := h
  refine ⟨ε1, h1, ?_, h2⟩
  unfold turnF
  rw [h3]
  simp only [Res.bind_ok]
  cases hb : b x with
  | false => rfl
  | true =>
    simp only [if_true]
    rw [h4 hb]
    rfl
theorem lc_runA {b : α → Bool} {g : α → D} {ft : Env → Res (Option D × Env)} : ∀ {xs : List α} {ε' : Env}, (∀ x ∈ xs, ∃ ε1 ε2, bindT tg (f x) (wipeE ε tg.slots) = .ok ε1 ∧ ft ε1 = .ok (if b x = true then some (g x) else none, ε2) ∧ wipeE ε2 tg.slots = wipeE ε tg.slots) → wipeE ε' tg.slots = wipeE ε tg.slots →
    ∃ ε2, lcL tg ft tg.slots (xs.map f) ε' = .ok ((xs.filter b).map g, ε2) ∧ wipeE ε2 tg.slots = wipeE ε tg.slots
  | [], ε', _, hw => ⟨ε', rfl, hw⟩
  | x :: xs, ε', h, hw => by
    obtain ⟨ε1, ε2, h1, h2, h3⟩ := h x (by simp)
    obtain ⟨ε3, k1, k2⟩ := lc_runA (xs := xs) (ε' := ε2) (fun y hy => h y (List.mem_cons_of_mem _ hy)) h3
    refine ⟨ε3, ?_, k2⟩
    rw [List.map_cons, lcL, hw, h1]
    simp only [Res.bind_ok]
    rw [h2]
    simp only [Res.bind_ok]
    rw [k1]
    simp only [Res.bind_ok]
    cases hb : b x with
    | false => rw [List.filter_cons_of_neg (by rw [hb]; simp)]; rfl
    | true => rw [List.filter_cons_of_pos hb, List.map_cons]; rfl
theorem ev_lcA {b : α → Bool} {g : α → D} (hi : evI call it ε = .ok (xs.map f, ε)) (h : ∀ x ∈ xs, TurnA call tg cs e ε f b g x) (hl : xs.length ≤ LIM) : ev call (.lc tg it cs e) m ε = .ok (.lst ((xs.filter b).map g), ε) := by
  obtain ⟨ε2, h1, h2⟩ := lc_runA (ft := turnF (evC call cs) (ev call e .esc)) (b := b) (g := g) (ε' := ε) (fun x hx => let ⟨ε1, k1, k2, k3⟩ := turn_of (h x hx); ⟨ε1, ε1, k1, k2, k3⟩) rfl
  have k : ev call (.lc tg it cs e) m ε = lcF tg (evI call it) (turnF (evC call cs) (ev call e .esc)) ε := by simp only [ev]; rfl
  rw [k]
  unfold lcF
  rw [hi]
  simp only [Res.bind_ok]
  rw [h1]
  simp only [Res.bind_ok]
  have : ((xs.filter b).map g).length ≤ LIM := by
    rw [List.length_map]
    exact Nat.le_trans (List.length_filter_le _ _) hl
  rw [sizeOk, if_pos this]
  simp only [Res.bind_ok]
  rw [back_same h2]
theorem gen_runA {c : Bool} {b : α → Bool} {g : α → Bool} {ft : Env → Res (Option D × Env)} : ∀ {xs : List α} {ε' : Env}, (∀ x ∈ xs, ∃ ε1 ε2, bindT tg (f x) (wipeE ε tg.slots) = .ok ε1 ∧ ft ε1 = .ok (if b x = true then some (.bl (g x)) else none, ε2) ∧ wipeE ε2 tg.slots = wipeE ε tg.slots) → wipeE ε' tg.slots = wipeE ε tg.slots →
    ∃ ε2, genL c tg ft tg.slots (xs.map f) ε' = .ok (if c = true then (xs.filter b).all g else (xs.filter b).any g, ε2) ∧ wipeE ε2 tg.slots = wipeE ε tg.slots
  | [], ε', _, hw => ⟨ε', by cases c <;> rfl, hw⟩
  | x :: xs, ε', h, hw => by
    obtain ⟨ε1, ε2, h1, h2, h3⟩ := h x (by simp)
    obtain ⟨ε3, k1, k2⟩ := gen_runA (c := c) (xs := xs) (ε' := ε2) (fun y hy => h y (List.mem_cons_of_mem _ hy)) h3
    rw [List.map_cons, genL, hw, h1]
    simp only [Res.bind_ok]
    rw [h2]
    simp only [Res.bind_ok]
    cases hb : b x with
    | false =>
      refine ⟨ε3, ?_, k2⟩
      simp only [Bool.false_eq_true, if_false]
      rw [k1, List.filter_cons_of_neg (by rw [hb]; simp)]
    | true =>
      simp only [if_true]
      rw [List.filter_cons_of_pos hb, List.all_cons, List.any_cons]
      cases hg : g x with
      | true =>
        cases c with
        | true =>
          refine ⟨ε3, ?_, k2⟩
          simp only [beq_self_eq_true, if_true, Bool.true_and]
          simpa using k1
        | false => exact ⟨ε2, by simp, h3⟩
      | false =>
        cases c with
        | false =>
          refine ⟨ε3, ?_, k2⟩
          simp only [beq_self_eq_true, if_true, Bool.false_or]
          simpa using k1
        | true => exact ⟨ε2, by simp, h3⟩
theorem ev_genA {c : Bool} {b g : α → Bool} (hi : evI call it ε = .ok (xs.map f, ε)) (h : ∀ x ∈ xs, TurnA call tg cs e ε f b (fun x => .bl (g x)) x) : ev call (.gen c tg it cs e) m ε = .ok (.bl (if c = true then (xs.filter b).all g else (xs.filter b).any g), ε) := by
  obtain ⟨ε2, h1, h2⟩ := gen_runA (c := c) (ft := turnF (evC call cs) (ev call e .esc)) (b := b) (g := g) (ε' := ε) (fun x hx => let ⟨ε1, k1, k2, k3⟩ := turn_of (h x hx); ⟨ε1, ε1, k1, k2, k3⟩) rfl
  have k : ev call (.gen c tg it cs e) m ε = geF c tg (evI call it) (turnF (evC call cs) (ev call e .esc)) ε := by simp only [ev]; rfl
  rw [k]
  unfold geF
  rw [hi]
  simp only [Res.bind_ok]
  rw [h1]
  simp only [Res.bind_ok]
  rw [back_same h2]
/-- no tests -/
theorem ev_lc0 {g : α → D} (hi : evI call it ε = .ok (xs.map f, ε)) (h : ∀ x ∈ xs, TurnA call tg .nil e ε f (fun _ => true) g x) (hl : xs.length ≤ LIM) : ev call (.lc tg it .nil e) m ε = .ok (.lst (xs.map g), ε) := by
  have q := ev_lcA (m := m) hi h hl
  rw [List.filter_eq_self.mpr fun _ _ => rfl] at q
  exact q
theorem ev_all0 {g : α → Bool} (hi : evI call it ε = .ok (xs.map f, ε)) (h : ∀ x ∈ xs, TurnA call tg .nil e ε f (fun _ => true) (fun x => .bl (g x)) x) : ev call (.gen true tg it .nil e) m ε = .ok (.bl (xs.all g), ε) := by
  have q := ev_genA (c := true) (m := m) hi h
  rw [List.filter_eq_self.mpr fun _ _ => rfl] at q
  exact q
theorem ev_any0 {g : α → Bool} (hi : evI call it ε = .ok (xs.map f, ε)) (h : ∀ x ∈ xs, TurnA call tg .nil e ε f (fun _ => true) (fun x => .bl (g x)) x) : ev call (.gen false tg it .nil e) m ε = .ok (.bl (xs.any g), ε) := by
  have q := ev_genA (c := false) (m := m) hi h
  rw [List.filter_eq_self.mpr fun _ _ => rfl] at q
  exact q
/-- a dict whose keys are all unlike: it is as long as what is walked -/
theorem dc_runA {key : α → Int} {g : α → D} {ft : Env → Res (Option (D × D) × Env)} : ∀ {xs : List α} {acc : List (D × D)} {ε' : Env}, (∀ x ∈ xs, ∃ ε1 ε2, bindT tg (f x) (wipeE ε tg.slots) = .ok ε1 ∧ ft ε1 = .ok (some (.int (key x), g x), ε2) ∧ wipeE ε2 tg.slots = wipeE ε tg.slots) → wipeE ε' tg.slots = wipeE ε tg.slots →
    (xs.map key).Nodup → (∀ x ∈ xs, ∀ p ∈ acc, eqv p.1 (.int (key x)) = false) → acc.length + xs.length ≤ LIM →
    ∃ q ε2, dcL tg ft tg.slots (xs.map f) acc ε' = .ok (q, ε2) ∧ q.length = acc.length + xs.length ∧ wipeE ε2 tg.slots = wipeE ε tg.slots
  | [], acc, ε', _, hw, _, _, _ => ⟨acc, ε', rfl, rfl, hw⟩
  | x :: xs, acc, ε', h, hw, nd, fr, hl => by
    obtain ⟨ε1, ε2, h1, h2, h3⟩ := h x (by simp)
    rw [List.map_cons, List.nodup_cons] at nd
    have hl : acc.length + (xs.length + 1) ≤ LIM := hl
    have put : putD (.int (key x)) (g x) acc = acc ++ [(.int (key x), g x)] := by
      unfold putD
      rw [if_neg]
      simp only [List.any_eq_true, not_exists, not_and]
      intro p hp
      rw [fr x (by simp) p hp]
      simp
    obtain ⟨q, ε3, k1, k2, k3⟩ := dc_runA (key := key) (g := g) (xs := xs) (acc := acc ++ [(.int (key x), g x)]) (ε' := ε2) (fun y hy => h y (List.mem_cons_of_mem _ hy)) h3 nd.2 (fun y hy p hp => by
      rcases List.mem_append.mp hp with z | z
      · exact fr y (List.mem_cons_of_mem _ hy) p z
      · rw [List.mem_singleton.mp z]
        show (key x == key y) = false
        have : key x ≠ key y := fun e => nd.1 (List.mem_map.mpr ⟨y, hy, e.symm⟩)
        simpa using this) (by rw [List.length_append, List.length_singleton]; omega)
    refine ⟨q, ε3, ?_, by rw [k2, List.length_append, List.length_singleton, List.length_cons]; omega, k3⟩
    rw [List.map_cons, dcL, hw, h1]
    simp only [Res.bind_ok]
    rw [h2]
    simp only [Res.bind_ok]
    rw [if_pos (by simp [isKey]; omega), put, k1]
theorem ev_dcA {key : α → Int} {g : α → D} {k : E} (hi : evI call it ε = .ok (xs.map f, ε)) (h : ∀ x ∈ xs, ∃ ε1, bindT tg (f x) (wipeE ε tg.slots) = .ok ε1 ∧ wipeE ε1 tg.slots = wipeE ε tg.slots ∧ ev call k .esc ε1 = .ok (.int (key x), ε1) ∧ ev call e .esc ε1 = .ok (g x, ε1)) (nd : (xs.map key).Nodup) (hl : xs.length ≤ LIM) :
    ∃ q, ev call (.dc tg it .nil k e) m ε = .ok (.dct q, ε) ∧ q.length = xs.length := by
  obtain ⟨q, ε2, h1, h2, h3⟩ := dc_runA (key := key) (g := g) (ft := turnD (evC call .nil) (ev call k .esc) (ev call e .esc)) (acc := []) (ε' := ε) (fun x hx => by
    obtain ⟨ε1, k1, k2, k3, k4⟩ := h x hx
    refine ⟨ε1, ε1, k1, ?_, k2⟩
    unfold turnD
    simp only [evC, Res.bind_ok, if_true]
    rw [k3]
    simp only [Res.bind_ok]
    rw [k4]
    rfl) rfl nd (fun _ _ p hp => by cases hp) (by simpa using hl)
  have h2 : q.length = xs.length := by simpa using h2
  refine ⟨q, ?_, h2⟩
  have kk : ev call (.dc tg it .nil k e) m ε = dcF tg (evI call it) (turnD (evC call .nil) (ev call k .esc) (ev call e .esc)) ε := by simp only [ev]; rfl
  rw [kk]
  unfold dcF
  rw [hi]
  simp only [Res.bind_ok]
  rw [h1]
  simp only [Res.bind_ok]
  rw [if_pos (by rw [h2]; exact hl), back_same h3]
end
end Ev
/-! ### evaluation: the steps -/
namespace Ev
open PySem
section
variable {call : Nat → List D → Res (D × D)} {ε : Env} {m : Md} {n : Nat}
@[simp] theorem e_v (i : Nat) : ev call (.v i) m ε = (getE ε i).bind fun d => .ok (d, ε) := by first | (simp only [ev]; done) | (simp only [ev]; rfl)
@[simp] theorem e_m (i : Nat) : ev call (.m i) .bor ε = (getE ε i).bind fun d => .ok (d, ε) := by first | (simp only [ev]; done) | (simp only [ev]; rfl)
@[simp] theorem e_c (d : D) : ev call (.c d) m ε = .ok (d, ε) := by first | (simp only [ev]; done) | (simp only [ev]; rfl)
@[simp] theorem e_un (o : UO) (a : E) : ev call (.un o a) m ε = (ev call a .bor ε).bind fun p => (uop o p.1).bind fun d => .ok (d, p.2) := by first | (simp only [ev]; done) | (simp only [ev]; rfl)
@[simp] theorem e_bin (o : BO) (a b : E) : ev call (.bin o a b) m ε = (ev call a .bor ε).bind fun p => (ev call b .bor p.2).bind fun q => (bop o p.1 q.1).bind fun d => .ok (d, q.2) := by first | (simp only [ev]; done) | (simp only [ev]; rfl)
@[simp] theorem e_cmp (o : CO) (a b : E) : ev call (.cmp o a b) m ε = (ev call a .bor ε).bind fun p => (ev call b .bor p.2).bind fun q => (cop o p.1 q.1).bind fun d => .ok (d, q.2) := by first | (simp only [ev]; done) | (simp only [ev]; rfl)
@[simp] theorem e_chn (o o' : CO) (a b c : E) : ev call (.chn o o' a b c) m ε = (ev call a .esc ε).bind fun p => (ev call b .esc p.2).bind fun q => (cop o p.1 q.1).bind fun d => match d with
      | .bl true => (ev call c .bor q.2).bind fun r => (cop o' q.1 r.1).bind fun d => .ok (d, r.2)
      | .bl false => .ok (.bl false, q.2)
      | _ => .no := by first | (simp only [ev]; done) | (simp only [ev]; rfl)
@[simp] theorem e_and (a b : E) : ev call (.and a b) m ε = (ev call a m ε).bind fun p => (truth p.1).bind fun t => if t = true then ev call b m p.2 else .ok p := by first | (simp only [ev]; done) | (simp only [ev]; rfl)
@[simp] theorem e_or (a b : E) : ev call (.or a b) m ε = (ev call a m ε).bind fun p => (truth p.1).bind fun t => if t = true then .ok p else ev call b m p.2 := by first | (simp only [ev]; done) | (simp only [ev]; rfl)
@[simp] theorem e_ife (c a b : E) : ev call (.ife c a b) m ε = (ev call c .bor ε).bind fun p => (truth p.1).bind fun t => if t = true then ev call a m p.2 else ev call b m p.2 := by first | (simp only [ev]; done) | (simp only [ev]; rfl)
@[simp] theorem e_tup (es : EL) : ev call (.tup es) m ε = (evL call es ε).bind fun p => (sizeOk p.1).bind fun ds => .ok (.tup ds, p.2) := by first | (simp only [ev]; done) | (simp only [ev]; rfl)
@[simp] theorem e_lst (es : EL) : ev call (.lst es) m ε = (evL call es ε).bind fun p => (sizeOk p.1).bind fun ds => .ok (.lst ds, p.2) := by first | (simp only [ev]; done) | (simp only [ev]; rfl)
@[simp] theorem e_idx (a b : E) : ev call (.idx a b) m ε = (ev call a .bor ε).bind fun p => (ev call b .esc p.2).bind fun q => (iop p.1 q.1).bind fun d => .ok (d, q.2) := by first | (simp only [ev]; done) | (simp only [ev]; rfl)
@[simp] theorem e_sli (a lo hi : E) : ev call (.sli a lo hi) m ε = (ev call a .bor ε).bind fun p => ((ev call lo .esc p.2).bind fun q => (prt lo.abs q.1).bind fun l => .ok (l, q.2)).bind fun q => ((ev call hi .esc q.2).bind fun q => (prt hi.abs q.1).bind fun l => .ok (l, q.2)).bind fun r =>
      (slD p.1 q.1 r.1).bind fun d => .ok (d, r.2) := by first | (simp only [ev]; done) | (simp only [ev]; rfl)
@[simp] theorem e_rev (a : E) : ev call (.rev a) m ε = (ev call a .bor ε).bind fun p => match p.1 with
      | .lst ds => .ok (.lst ds.reverse, p.2)
      | .tup ds => .ok (.tup ds.reverse, p.2)
      | _ => .no := by first | (simp only [ev]; done) | (simp only [ev]; rfl)
@[simp] theorem e_call (mt : Option Nat) (f : Nat) (as : EL) : ev call (.call mt f as) m ε = (evA call as ε).bind fun p => (argsD p.2 p.1).bind fun ds => (call f ds).bind fun r => .ok (r.1, setO mt r.2 p.2) := by first | (simp only [ev]; done) | (simp only [ev]; rfl)
@[simp] theorem e_pri (p : Pr) (as : EL) : ev call (.pri p as) m ε = (ev1 call as ε).bind fun q => (priD p q.1).bind fun d => .ok (d, q.2) := by first | (simp only [ev]; done) | (simp only [ev]; rfl)
@[simp] theorem e_isi (a : E) (ts : List Ty) : ev call (.isi a ts) m ε = (ev call a .bor ε).bind fun p => if isiOk p.1 = true then .ok (.bl (ts.any fun t => isiD p.1 t), p.2) else .no := by first | (simp only [ev]; done) | (simp only [ev]; rfl)
@[simp] theorem l_nil : evL call .nil ε = .ok ([], ε) := by first | (simp only [evL]; done) | (simp only [evL]; rfl)
@[simp] theorem l_cons (e : E) (r : EL) : evL call (.cons e r) ε = (ev call e .esc ε).bind fun p => (evL call r p.2).bind fun q => .ok (p.1 :: q.1, q.2) := by first | (simp only [evL]; done) | (simp only [evL]; rfl)
@[simp] theorem l_star (e : E) (r : EL) : evL call (.star e r) ε = (ev call e .esc ε).bind fun p => (itemsD p.1).bind fun xs => (evL call r p.2).bind fun q => .ok (xs ++ q.1, q.2) := by first | (simp only [evL]; done) | (simp only [evL]; rfl)
@[simp] theorem b_one (e : E) : ev1 call (.cons e .nil) ε = (ev call e .bor ε).bind fun p => .ok ([p.1], p.2) := by first | (simp only [ev1]; done) | (simp only [ev1]; rfl)
@[simp] theorem b_two (e f : E) : ev1 call (.cons e (.cons f .nil)) ε = (ev call e .esc ε).bind fun p => (ev call f .esc p.2).bind fun q => .ok ([p.1, q.1], q.2) := by first | (simp only [ev1]; done) | (simp only [ev1]; rfl)
@[simp] theorem b_three (e f g : E) : ev1 call (.cons e (.cons f (.cons g .nil))) ε = (ev call e .esc ε).bind fun p => (ev call f .esc p.2).bind fun q => (ev call g .esc q.2).bind fun r => .ok ([p.1, q.1, r.1], r.2) := by first | (simp only [ev1]; done) | (simp only [ev1]; rfl)
@[simp] theorem a_nil : evA call .nil ε = .ok ([], ε) := by first | (simp only [evA]; done) | (simp only [evA]; rfl)
@[simp] theorem a_cons (e : E) (r : EL) : evA call (.cons e r) ε = (ev call e .esc ε).bind fun p => (evA call r p.2).bind fun q => .ok (.val p.1 :: q.1, q.2) := by first | (simp only [evA]; done) | (simp only [evA]; rfl)
@[simp] theorem a_ref (i : Nat) (r : EL) : evA call (.ref i r) ε = (getE ε i).bind fun _ => (evA call r ε).bind fun q => .ok (.ref i :: q.1, q.2) := by first | (simp only [evA]; done) | (simp only [evA]; rfl)
@[simp] theorem t_nil : evC call .nil ε = .ok (true, ε) := by first | (simp only [evC]; done) | (simp only [evC]; rfl)
@[simp] theorem t_one (e : E) : evC call (.cons e .nil) ε = (ev call e .bor ε).bind fun p => (truth p.1).bind fun t => .ok (t, p.2) := by first | (simp only [evC]; done) | (simp only [evC]; rfl)
@[simp] theorem i_seq (e : E) : evI call (.seq e) ε = (ev call e .esc ε).bind fun p => (itemsD p.1).bind fun xs => .ok (xs, p.2) := by first | (simp only [evI]; done) | (simp only [evI]; rfl)
@[simp] theorem i_sqb (i : Nat) : evI call (.sqb i) ε = (getE ε i).bind fun d => match d with
      | .lst ds => .ok (ds, ε)
      | _ => .no := by first | (simp only [evI]; done) | (simp only [evI]; rfl)
@[simp] theorem i_rng (a b : E) : evI call (.rng a b) ε = (ev call a .esc ε).bind fun p => (ev call b .esc p.2).bind fun q => match p.1, q.1 with
      | .int i, .int j => if smallR i && smallR j then .ok (rngD i j, q.2) else .no
      | _, _ => .no := by first | (simp only [evI]; done) | (simp only [evI]; rfl)
@[simp] theorem i_enm (a : E) : evI call (.enm a) ε = (ev call a .esc ε).bind fun p => match p.1 with
      | .lst xs => .ok (enmD 0 xs, p.2)
      | .tup xs => .ok (enmD 0 xs, p.2)
      | _ => .no := by first | (simp only [evI]; done) | (simp only [evI]; rfl)
@[simp] theorem s_asg (i : Nat) (e : E) : ex call n (.asg i e) ε = (ev call e .esc ε).bind fun p => .ok (.nx, p.2.set i (some p.1)) := by first | (simp only [ex]; done) | (simp only [ex]; rfl)
@[simp] theorem s_own (i : Nat) (e : E) : ex call n (.own i e) ε = (ev call e .esc ε).bind fun p => if isC p.1 = true then .ok (.nx, p.2.set i (some p.1)) else .no := by first | (simp only [ex]; done) | (simp only [ex]; rfl)
@[simp] theorem s_unp (is : List Nat) (e : E) : ex call n (.unp is e) ε = (ev call e .esc ε).bind fun p => (bindT (.tp is) p.1 p.2).bind fun ε1 => .ok (.nx, ε1) := by first | (simp only [ex]; done) | (simp only [ex]; rfl)
@[simp] theorem s_par (ts : List (Bool × Nat)) (es : EL) : ex call n (.par ts es) ε = (evL call es ε).bind fun p => (sizeOk p.1).bind fun ds => (parL ts ds p.2).bind fun ε1 => .ok (.nx, ε1) := by first | (simp only [ex]; done) | (simp only [ex]; rfl)
@[simp] theorem s_swp (i : Nat) (a b x y : E) : ex call n (.swp i a b x y) ε = (ev call x .esc ε).bind fun p => (ev call y .esc p.2).bind fun q => (getE q.2 i).bind fun _ => (ev call a .esc q.2).bind fun r => (getE r.2 i).bind fun xs => (setD xs r.1 p.1).bind fun xs1 =>
      (ev call b .esc (r.2.set i (some xs1))).bind fun s => (getE s.2 i).bind fun xs2 => (setD xs2 s.1 q.1).bind fun xs3 => .ok (.nx, s.2.set i (some xs3)) := by first | (simp only [ex]; done) | (simp only [ex]; rfl)
@[simp] theorem e_mth (k : Mt) (o x : E) (m : Md) : ev call (.mth k o x) m ε = (ev call o .bor ε).bind fun p => match p.1 with
      | .lst ds => (ev call x .esc p.2).bind fun q => (mthD k (.lst ds) q.1).bind fun d => .ok (d, q.2)
      | .tup ds => (ev call x .esc p.2).bind fun q => (mthD k (.tup ds) q.1).bind fun d => .ok (d, q.2)
      | _ => .no := by first | (simp only [ev]; done) | (simp only [ev]; rfl)
@[simp] theorem s_mvp (i j k : Nat) (e : E) : ex call n (.mvp i j k e) ε = (getE ε i).bind fun _ => (ev call e .esc ε).bind fun p => (getE p.2 i).bind fun d => .ok (.nx, ((p.2.set i none).set j (some d)).set k (some p.1)) := by first | (simp only [ex]; done) | (simp only [ex]; rfl)
@[simp] theorem s_sti (i : Nat) (k e : E) : ex call n (.sti i k e) ε = (ev call e .esc ε).bind fun p => (getE p.2 i).bind fun _ => (ev call k .esc p.2).bind fun q => (getE q.2 i).bind fun xs => (setD xs q.1 p.1).bind fun xs1 => .ok (.nx, q.2.set i (some xs1)) := by first | (simp only [ex]; done) | (simp only [ex]; rfl)
@[simp] theorem s_app (i : Nat) (e : E) : ex call n (.app i e) ε = (getE ε i).bind fun d0 => match d0 with
      | .lst _ => (ev call e .esc ε).bind fun p => (getE p.2 i).bind fun xs => match xs with
        | .lst ds => if ds.length < LIM then .ok (.nx, p.2.set i (some (.lst (ds ++ [p.1])))) else .no
        | _ => .no
      | _ => .no := by first | (simp only [ex]; done) | (simp only [ex]; rfl)
@[simp] theorem s_exp (e : E) : ex call n (.exp e) ε = (ev call e .bor ε).bind fun p => .ok (.nx, p.2) := by first | (simp only [ex]; done) | (simp only [ex]; rfl)
@[simp] theorem s_ret (e : E) : ex call n (.ret e) ε = (ev call e .esc ε).bind fun p => .ok (.rt p.1, p.2) := by first | (simp only [ex]; done) | (simp only [ex]; rfl)
@[simp] theorem s_rtf (i : Nat) : ex call n (.rtf i) ε = (getE ε i).bind fun d => .ok (.rt d, ε) := by first | (simp only [ex]; done) | (simp only [ex]; rfl)
@[simp] theorem s_ifs (c : E) (a b : SL) : ex call n (.ifs c a b) ε = (ev call c .bor ε).bind fun p => (truth p.1).bind fun t => if t = true then exs call n a p.2 else exs call n b p.2 := by first | (simp only [ex]; done) | (simp only [ex]; rfl)
/-- a loop's body, its test -/
def bodyF (call : Nat → List D → Res (D × D)) (n : Nat) (b : SL) (ε : Env) : Res (Fl × Env) := exs call n b ε
def condF (call : Nat → List D → Res (D × D)) (c : E) (ε : Env) : Res (Bool × Env) := (ev call c .bor ε).bind fun p => (truth p.1).bind fun t => .ok (t, p.2)
@[simp] theorem s_whl (c : E) (b : SL) : ex call n (.whl c b) ε = whlL (condF call c) (bodyF call n b) n ε := by first | (simp only [ex]; done) | (simp only [ex]; rfl)
@[simp] theorem s_for (tg : Tg) (it : It) (b : SL) : ex call n (.for tg it b) ε = (evI call it ε).bind fun p => forL tg (bodyF call n b) p.1 p.2 := by first | (simp only [ex]; done) | (simp only [ex]; rfl)
@[simp] theorem s_fox (tg : Tg) (i : Nat) (b : SL) : ex call n (.fox tg i b) ε = foxL tg i (bodyF call n b) n 0 ε := by first | (simp only [ex]; done) | (simp only [ex]; rfl)
@[simp] theorem s_brk : ex call n .brk ε = .ok (.bk, ε) := by first | (simp only [ex]; done) | (simp only [ex]; rfl)
@[simp] theorem s_cnt : ex call n .cnt ε = .ok (.ct, ε) := by first | (simp only [ex]; done) | (simp only [ex]; rfl)
@[simp] theorem s_pas : ex call n .pas ε = .ok (.nx, ε) := by first | (simp only [ex]; done) | (simp only [ex]; rfl)
@[simp] theorem ss_nil : exs call n .nil ε = .ok (.nx, ε) := by first | (simp only [exs]; done) | (simp only [exs]; rfl)
@[simp] theorem ss_cons (s : S) (r : SL) : exs call n (.cons s r) ε = (ex call n s ε).bind fun q => match q.1 with
      | .nx => exs call n r q.2
      | _ => .ok q := by first | (simp only [exs]; done) | (simp only [exs]; rfl)
end
@[simp] theorem getE0 (a : D) (l : Env) : getE (some a :: l) 0 = .ok a := rfl
@[simp] theorem getES (a : Option D) (l : Env) (i : Nat) : getE (a :: l) (i + 1) = getE l i := by simp [getE]
/-! #### operations on known data -/
section
variable (i j : Int) (a b : Bool) (x y : Str) (ds es : List D) (d e : D)
@[simp] theorem tr_bl : truth (.bl a) = .ok a := rfl
@[simp] theorem tr_int : truth (.int i) = .ok (i != 0) := rfl
@[simp] theorem tr_tup : truth (.tup ds) = .ok !ds.isEmpty := rfl
@[simp] theorem tr_lst : truth (.lst ds) = .ok !ds.isEmpty := rfl
@[simp] theorem uo_not : uop .not (.bl a) = .ok (.bl !a) := rfl
@[simp] theorem uo_neg : uop .neg (.int i) = .ok (.int (-i)) := rfl
@[simp] theorem bo_add : bop .add (.int i) (.int j) = .ok (.int (i + j)) := rfl
@[simp] theorem bo_sub : bop .sub (.int i) (.int j) = .ok (.int (i - j)) := rfl
@[simp] theorem bo_addL : bop .add (.lst ds) (.lst es) = if ds.length + es.length ≤ LIM then .ok (.lst (ds ++ es)) else .no := rfl
@[simp] theorem bo_addT : bop .add (.tup ds) (.tup es) = if ds.length + es.length ≤ LIM then .ok (.tup (ds ++ es)) else .no := rfl
@[simp] theorem bo_mod : bop .mod (.int i) (.int j) = if 0 < j then .ok (.int (i % j)) else .no := rfl
@[simp] theorem bo_fdv : bop .fdv (.int i) (.int j) = if 0 < j ∧ j < 1073741824 then .ok (.int (i / j)) else .no := rfl
@[simp] theorem bo_mul : bop .mul (.int i) (.int j) = if smallI i || smallI j then .ok (.int (i * j)) else .no := rfl
@[simp] theorem bo_mulL : bop .mul (.lst ds) (.int j) = if 0 ≤ j ∧ j ≤ 1000 ∧ ds.length ≤ 1000 then .ok (.lst (List.replicate j.toNat ds).flatten) else .no := rfl
@[simp] theorem bo_pow : bop .pow (.int i) (.int j) = if 0 ≤ j ∧ j ≤ 1000 ∧ smallI i then .ok (.int (i ^ j.toNat)) else .no := rfl
@[simp] theorem co_lt : cop .lt (.int i) (.int j) = .ok (.bl (decide (i < j))) := rfl
@[simp] theorem co_le : cop .le (.int i) (.int j) = .ok (.bl (decide (i ≤ j))) := rfl
@[simp] theorem co_gt : cop .gt (.int i) (.int j) = .ok (.bl (decide (j < i))) := rfl
@[simp] theorem co_ge : cop .ge (.int i) (.int j) = .ok (.bl (decide (j ≤ i))) := rfl
@[simp] theorem co_eq : cop .eq (.int i) (.int j) = .ok (.bl (decide (i = j))) := by
  have : eqv (.int i) (.int j) = decide (i = j) := by
    show (i == j) = _
    rw [Bool.eq_iff_iff]; simp
  show (if (okE (.int i) && okE (.int j)) = true then Res.ok (D.bl (eqv (.int i) (.int j))) else .no) = _
  rw [this]
  rfl
@[simp] theorem co_ne : cop .ne (.int i) (.int j) = .ok (.bl (!decide (i = j))) := by
  have : eqv (.int i) (.int j) = decide (i = j) := by
    show (i == j) = _
    rw [Bool.eq_iff_iff]; simp
  show (if (okE (.int i) && okE (.int j)) = true then Res.ok (D.bl !(eqv (.int i) (.int j))) else .no) = _
  rw [this]
  rfl
@[simp] theorem co_eqS : cop .eq (.str x) (.str y) = .ok (.bl (decide (x = y))) := by
  have : eqv (.str x) (.str y) = decide (x = y) := by
    show (x == y) = _
    rw [Bool.eq_iff_iff]; simp
  show (if (okE (.str x) && okE (.str y)) = true then Res.ok (D.bl (eqv (.str x) (.str y))) else .no) = _
  rw [this]
  rfl
@[simp] theorem co_eqB : cop .eq (.bl a) (.bl b) = .ok (.bl (a == b)) := rfl
@[simp] theorem co_neB : cop .ne (.bl a) (.bl b) = .ok (.bl !(a == b)) := rfl
@[simp] theorem co_isN : cop .is d .non = .ok (.bl (isNon d)) := by cases d <;> rfl
@[simp] theorem io_bl : isiOk (.bl a) = true := rfl
@[simp] theorem io_int : isiOk (.int i) = true := rfl
@[simp] theorem io_str : isiOk (.str x) = true := rfl
@[simp] theorem io_tup : isiOk (.tup ds) = true := rfl
@[simp] theorem io_lst : isiOk (.lst ds) = true := rfl
@[simp] theorem io_non : isiOk .non = true := rfl
@[simp] theorem is1 : isiD (.int i) .int = true := rfl
@[simp] theorem is2 : isiD (.int i) .bool = false := rfl
@[simp] theorem is3 : isiD (.int i) .str = false := rfl
@[simp] theorem is4 : isiD (.int i) .tuple = false := rfl
@[simp] theorem is5 : isiD (.int i) .list = false := rfl
@[simp] theorem is6 : isiD (.tup ds) .int = false := rfl
@[simp] theorem is7 : isiD (.tup ds) .bool = false := rfl
@[simp] theorem is8 : isiD (.tup ds) .str = false := rfl
@[simp] theorem is9 : isiD (.tup ds) .tuple = true := rfl
@[simp] theorem is10 : isiD (.tup ds) .list = false := rfl
@[simp] theorem is11 : isiD (.str x) .str = true := rfl
@[simp] theorem is12 : isiD (.str x) .int = false := rfl
@[simp] theorem is13 : isiD (.str x) .tuple = false := rfl
@[simp] theorem is14 : isiD (.str x) .list = false := rfl
@[simp] theorem is15 : isiD (.lst ds) .list = true := rfl
@[simp] theorem is16 : isiD (.lst ds) .tuple = false := rfl
@[simp] theorem is17 : isiD (.lst ds) .int = false := rfl
@[simp] theorem is18 : isiD (.lst ds) .str = false := rfl
@[simp] theorem p_lenT : priD .len [.tup ds] = .ok (.int ds.length) := rfl
@[simp] theorem p_lenL : priD .len [.lst ds] = .ok (.int ds.length) := rfl
@[simp] theorem p_lenR : priD .len [.rol ds] = .ok (.int ds.length) := rfl
@[simp] theorem p_lenD (l : List (D × D)) : priD .len [.dct l] = .ok (.int l.length) := rfl
@[simp] theorem p_listT : priD .list [.tup ds] = .ok (.lst ds) := rfl
@[simp] theorem p_listL : priD .list [.lst ds] = .ok (.lst ds) := rfl
@[simp] theorem p_tupT : priD .tuple [.tup ds] = .ok (.tup ds) := rfl
@[simp] theorem p_tupL : priD .tuple [.lst ds] = .ok (.tup ds) := rfl
@[simp] theorem p_int : priD .int [.int i] = .ok (.int i) := rfl
@[simp] theorem p_intB : priD .int [.bl a] = .ok (.int (if a then 1 else 0)) := rfl
@[simp] theorem p_max : priD .max [.int i, .int j] = .ok (.int (if j > i then j else i)) := rfl
@[simp] theorem p_min : priD .min [.int i, .int j] = .ok (.int (if j < i then j else i)) := rfl
@[simp] theorem it_tup : itemsD (.tup ds) = .ok ds := rfl
@[simp] theorem it_lst : itemsD (.lst ds) = .ok ds := rfl
@[simp] theorem sl_tup (lo hi : Option Int) : slD (.tup ds) lo hi = .ok (.tup (cutD ds lo hi)) := rfl
@[simp] theorem sl_lst (lo hi : Option Int) : slD (.lst ds) lo hi = .ok (.lst (cutD ds lo hi)) := rfl
@[simp] theorem pr_n : prt true .non = .ok none := rfl
@[simp] theorem pr_i (q : Bool) : prt q (.int i) = .ok (some i) := rfl
@[simp] theorem ab_v (n : Nat) : (E.v n).abs = false := rfl
@[simp] theorem ab_n : (E.c .non).abs = true := rfl
@[simp] theorem ab_i : (E.c (.int i)).abs = false := rfl
@[simp] theorem ab_p (p : Pr) (as : EL) : (E.pri p as).abs = false := rfl
@[simp] theorem ab_b (o : BO) (u v : E) : (E.bin o u v).abs = false := rfl
@[simp] theorem st_n (o : D) (ε : Env) : setO none o ε = ε := rfl
@[simp] theorem st_s (n : Nat) (o : D) (ε : Env) : setO (some n) o ε = ε.set n (some o) := rfl
@[simp] theorem ag_n (ε : Env) : argsD ε [] = .ok [] := rfl
@[simp] theorem ag_v (ε : Env) (r : List Arg) : argsD ε (.val d :: r) = (argsD ε r).bind fun l => .ok (d :: l) := rfl
@[simp] theorem ag_r (ε : Env) (n : Nat) (r : List Arg) : argsD ε (.ref n :: r) = (getE ε n).bind fun d => (argsD ε r).bind fun l => .ok (d :: l) := rfl
end
/-! #### data -/
abbrev PI2 := Int × Int
def esD (l : List PI2) : D := .tup (l.map pairD)
def colD (c : List PI2 × List PI2) : D := .tup [esD c.1, esD c.2]
@[simp] theorem iop0 (a : D) (l : List D) : iop (.tup (a :: l)) (.int 0) = .ok a := by
  simp [iop, atD, ixD]
@[simp] theorem iop1 (a b : D) (l : List D) : iop (.tup (a :: b :: l)) (.int 1) = .ok b := by
  have : (1 : Int) < (l.length : Int) + 1 + 1 := by omega
  simp [iop, atD, ixD, this]
@[simp] theorem iop_p0 (p : PI2) : iop (pairD p) (.int 0) = .ok (.int p.1) := iop0 _ _
@[simp] theorem iop_p1 (p : PI2) : iop (pairD p) (.int 1) = .ok (.int p.2) := iop1 _ _ _
@[simp] theorem len_es (l : List PI2) : priD .len [esD l] = .ok (.int l.length) := by simp [esD]
@[simp] theorem it_es (l : List PI2) : itemsD (esD l) = .ok (l.map pairD) := rfl
theorem intsD_map (l : List Int) : intsD (l.map .int) = .ok l := by
  induction l with
  | nil => rfl
  | cons i r ih => simp only [List.map_cons, intsD, ih, Res.bind_ok]
theorem pairsI_map (l : List PI2) : pairsI (l.map pairD) = .ok l := by
  induction l with
  | nil => rfl
  | cons i r ih => simp only [List.map_cons, pairD, pairsI]; rw [show pairsI (r.map pairD) = .ok r from ih]; rfl
theorem intsD_pairs (p : PI2) (l : List PI2) : intsD ((p :: l).map pairD) = .no := rfl
theorem iop_map {α : Type} (f : α → D) {l : List α} {i : Nat} (h : i < l.length) : iop (.tup (l.map f)) (.int (i : Int)) = .ok (f l[i]) := by
  have h2 : ((i : Nat) : Int) < ((l.map f).length : Nat) := by rw [List.length_map]; omega
  simp [iop, atD, ixD, h, Int.toNat_natCast]
theorem iop_mapL {α : Type} (f : α → D) {l : List α} {i : Nat} (h : i < l.length) : iop (.lst (l.map f)) (.int (i : Int)) = .ok (f l[i]) := by
  have h2 : ((i : Nat) : Int) < ((l.map f).length : Nat) := by rw [List.length_map]; omega
  simp [iop, atD, ixD, h, Int.toNat_natCast]
theorem p_maxL (i : Int) (l : List Int) : priD .max [.lst ((i :: l).map .int)] = .ok (.int (l.foldl (fun a b => if b > a then b else a) i)) := by
  show ((intsD ((i :: l).map .int)).bind fun l => (maxI l).bind fun i => Res.ok (D.int i)) = _
  rw [intsD_map]
  rfl
theorem p_minL (i : Int) (l : List Int) : priD .min [.lst ((i :: l).map .int)] = .ok (.int (l.foldl (fun a b => if b < a then b else a) i)) := by
  show ((intsD ((i :: l).map .int)).bind fun l => (minI l).bind fun i => Res.ok (D.int i)) = _
  rw [intsD_map]
  rfl
theorem p_sortP (l : List PI2) (p : PI2) : priD .sorted [.lst ((p :: l).map pairD)] = .ok (.lst ((sortP (p :: l)).map pairD)) := by
  show sortD ((p :: l).map pairD) = _
  unfold sortD
  rw [intsD_pairs, pairsI_map]
  rfl
theorem p_sortPT (l : List PI2) (p : PI2) : priD .sorted [.tup ((p :: l).map pairD)] = .ok (.lst ((sortP (p :: l)).map pairD)) := p_sortP l p
theorem rng_map (n : Nat) : rngD 0 (n : Int) = (List.range n).map fun k => D.int (k : Nat) := by
  unfold rngD
  simp
theorem rng_map2 (a n : Nat) : rngD (a : Int) ((a + n : Nat) : Int) = (List.range n).map fun k => D.int ((a + k : Nat) : Int) := by
  unfold rngD
  have : (((a + n : Nat) : Int) - (a : Int)).toNat = n := by omega
  rw [this]
  simp
abbrev NN := Nat × Nat
def pairN (p : NN) : D := .tup [.int (p.1 : Int), .int (p.2 : Int)]
def swapN (xs : List PI2) (p : NN) : List PI2 := (xs.set p.1 (xs.getD p.2 (0, 0))).set p.2 (xs.getD p.1 (0, 0))
theorem swapN_len (xs : List PI2) (p : NN) : (swapN xs p).length = xs.length := by simp [swapN]
theorem swaps_len (S : List NN) (xs : List PI2) : (S.foldl swapN xs).length = xs.length := by
  induction S generalizing xs with
  | nil => rfl
  | cons p S ih => rw [List.foldl_cons, ih, swapN_len]
theorem setD_map {α : Type} (f : α → D) {l : List α} {i : Nat} (h : i < l.length) (a : α) : setD (.lst (l.map f)) (.int (i : Int)) (f a) = .ok (.lst ((l.set i a).map f)) := by
  unfold setD
  have e : ixD (l.map f).length (i : Int) = some i := by
    unfold ixD
    rw [List.length_map, if_pos (by omega), if_pos (by omega)]
    simp
  dsimp only
  rw [e]
  dsimp only
  rw [List.map_set]
theorem getD_eq {l : List PI2} {i : Nat} (h : i < l.length) : l.getD i (0, 0) = l[i] := by
  rw [List.getD_eq_getElem?_getD, List.getElem?_eq_getElem h]
  rfl
/-! #### one statement after another -/
section
variable (call : Nat → List D → Res (D × D)) (n : Nat)
theorem seq_nx (a : S) (r : SL) (x y : Env) (res : Res (Fl × Env)) (h : ex call n a x = .ok (.nx, y)) (q : exs call n r y = res) : exs call n (.cons a r) x = res := by
  rw [ss_cons, h]
  exact q
theorem seq_rt (a : S) (r : SL) (x y : Env) (d : D) (h : ex call n a x = .ok (.rt d, y)) : exs call n (.cons a r) x = .ok (.rt d, y) := by
  rw [ss_cons, h]
  rfl
theorem ifs_t (c : E) (a b : SL) (x y : Env) (res : Res (Fl × Env)) (h : ev call c .bor x = .ok (.bl true, y)) (q : exs call n a y = res) : ex call n (.ifs c a b) x = res := by
  rw [s_ifs, h]
  exact q
theorem ifs_f (c : E) (a b : SL) (x y : Env) (res : Res (Fl × Env)) (h : ev call c .bor x = .ok (.bl false, y)) (q : exs call n b y = res) : ex call n (.ifs c a b) x = res := by
  rw [s_ifs, h]
  exact q
theorem run_end (np ns : Nat) (b : SL) (ds : List D) (x y : Env) (d : D) (h1 : ds.length = np) (h2 : ds.map some ++ List.replicate (ns - np) none = x) (h3 : exs call n b x = .ok (.rt d, y)) : runF call n ⟨np, ns, false, b⟩ ds = .ok (d, .non) := by
  unfold runF
  rw [if_pos h1]
  dsimp only
  rw [h2, h3]
  rfl
/-- a turn of a for, the rest -/
theorem for_cons (tg : Tg) (b : SL) (d : D) (r : List D) (x y z : Env) (res : Res (Fl × Env)) (h1 : bindT tg d x = .ok y) (h2 : bodyF call n b y = .ok (.nx, z)) (h3 : forL tg (bodyF call n b) r z = res) : forL tg (bodyF call n b) (d :: r) x = res := by
  rw [forL, h1]
  simp only [Res.bind_ok]
  rw [h2]
  simp only [Res.bind_ok]
  exact h3
/-- a for whose walk is known -/
theorem for_ex (tg : Tg) (it : It) (b : SL) (ds : List D) (x y z : Env) (f : Fl) (h1 : evI call it x = .ok (ds, y)) (h2 : forL tg (bodyF call n b) ds y = .ok (f, z)) : ex call n (.for tg it b) x = .ok (f, z) := by
  rw [s_for, h1]
  exact h2
end
theorem smallR_nat {m : Nat} (h : m ≤ 1000) : smallR (m : Int) = true := by
  unfold smallR
  rw [Bool.and_eq_true, decide_eq_true_eq, decide_eq_true_eq]
  omega
theorem smallR_big {m : Nat} (h : m ≤ 1000000) : smallR (m : Int) = true := by
  unfold smallR
  rw [Bool.and_eq_true, decide_eq_true_eq, decide_eq_true_eq]
  omega
/-- a range from 0 -/
theorem i_rng0 {call : Nat → List D → Res (D × D)} {e : E} {ε ε' : Env} {N : Nat} (h : ev call e .esc ε = .ok (.int (N : Int), ε')) (hN : N ≤ 1000000) : evI call (.rng (.c (.int 0)) e) ε = .ok ((List.range N).map fun i : Nat => D.int (i : Int), ε') := by
  have s1 : smallR 0 = true := rfl
  rw [i_rng]
  simp only [e_c, h, Res.bind_ok, s1, smallR_big hN, Bool.and_self, if_true, rng_map]
/-- small displays -/
theorem sz0 : sizeOk ([] : List D) = .ok [] := rfl
theorem sz1 (x : D) : sizeOk [x] = .ok [x] := if_pos (show 1 ≤ LIM by decide)
theorem sz2 (x y : D) : sizeOk [x, y] = .ok [x, y] := if_pos (show 2 ≤ LIM by decide)
theorem sz3 (x y z : D) : sizeOk [x, y, z] = .ok [x, y, z] := if_pos (show 3 ≤ LIM by decide)
theorem sz4 (x y z w : D) : sizeOk [x, y, z, w] = .ok [x, y, z, w] := if_pos (show 4 ≤ LIM by decide)
end Ev
namespace Ev.K22
open PySem
/-! ### a draw; what is known of the rest by the kernel -/
theorem call_succ (n k f : Nat) (F : Fn) (ds : List D) (h : code[f]? = some F) : callK code n (k + 1) f ds = runF (callK code n k) n F ds := by
  show (match code[f]? with | some F => runF (callK code n k) n F ds | none => .no) = _
  rw [h]
theorem iop_rol {l : List Int} {i : Nat} (h : i < l.length) : iop (.rol (l.map .int)) (.int (i : Int)) = .ok (.int l[i]) := by
  have h2 : ((i : Nat) : Int) < ((l.map D.int).length : Nat) := by rw [List.length_map]; omega
  simp [iop, atD, ixD, h, Int.toNat_natCast]
def rowD (ns : List Int) (a b c : Int) : D := .lst [.rol (ns.map .int), .int a, .int b, .int c]
section
variable (w x y z d : D)
@[simp] theorem rw0 : iop (.lst [w, x, y, z]) (.int 0) = .ok w := rfl
@[simp] theorem rw1 : iop (.lst [w, x, y, z]) (.int 1) = .ok x := rfl
@[simp] theorem rw2 : iop (.lst [w, x, y, z]) (.int 2) = .ok y := rfl
@[simp] theorem rw3 : iop (.lst [w, x, y, z]) (.int 3) = .ok z := rfl
@[simp] theorem ws1 : setD (.lst [w, x, y, z]) (.int 1) d = .ok (.lst [w, d, y, z]) := rfl
@[simp] theorem ws2 : setD (.lst [w, x, y, z]) (.int 2) d = .ok (.lst [w, x, d, z]) := rfl
@[simp] theorem ws3 : setD (.lst [w, x, y, z]) (.int 3) d = .ok (.lst [w, x, y, d]) := rfl
end
theorem r_taken (n k : Nat) (ns : List Int) (a b c m : Int) (ha : 0 ≤ a) (hm : 0 < m) (hm2 : m < 1073741824) :
    ∃ v a' b' c', 0 ≤ v ∧ v < m ∧ 0 ≤ a' ∧ callK code n (k + 1) i__law_taken [rowD ns a b c, .int m] = .ok (.int v, rowD ns a' b' c') := by
  rw [call_succ n k _ F__law_taken _ rfl]
  have mod : ∀ z : Int, 0 ≤ z % m ∧ z % m < m := fun z => ⟨Int.emod_nonneg _ (by omega), Int.emod_lt_of_pos _ hm⟩
  by_cases h1 : 0 < c
  · refine ⟨c % m, a, b, c / m, (mod c).1, (mod c).2, ha, ?_⟩
    simp [runF, F__law_taken, b__law_taken, rowD, h1, hm, hm2]
  · by_cases h2 : (ns.length : Int) < a + 1
    · refine ⟨((b * 48271 + 11) % 2147483647 / 7) % m, a + 1, (b * 48271 + 11) % 2147483647, c, (mod _).1, (mod _).2, by omega, ?_⟩
      have s1 : smallI 48271 = true := by decide
      simp [runF, F__law_taken, b__law_taken, rowD, h1, h2, hm, hm2, s1]
    · have hi : a.toNat < ns.length := by omega
      have e1 := iop_rol hi
      rw [Int.toNat_of_nonneg ha] at e1
      have s1 : smallI 48271 = true := by decide
      have s2 : smallI 10 = true := by decide
      by_cases h3 : 1000000000000000000 ≤ ns[a.toNat]
      · refine ⟨ns[a.toNat] % m, a + 1, (b * 48271 + ns[a.toNat] + 11) % 2147483647, ns[a.toNat] / m, (mod _).1, (mod _).2, by omega, ?_⟩
        simp [runF, F__law_taken, b__law_taken, rowD, h1, h2, hm, hm2, s1, s2, e1, h3]
      · refine ⟨ns[a.toNat] % m, a + 1, (b * 48271 + ns[a.toNat] + 11) % 2147483647, c, (mod _).1, (mod _).2, by omega, ?_⟩
        simp [runF, F__law_taken, b__law_taken, rowD, h1, h2, hm, hm2, s1, s2, e1, h3]
def outB (r : Res (Fl × Env)) : Res D := match r with
  | .ok (.rt d, _) => .ok d
  | .ok _ => .no
  | .er c x => .er c x
  | .no => .no
theorem outB_ok {r : Res (Fl × Env)} {d : D} (h : outB r = .ok d) : ∃ ε, r = .ok (.rt d, ε) := by
  cases r with
  | no => cases h
  | er c x => cases h
  | ok q =>
    obtain ⟨f, ε⟩ := q
    cases f <;> first | cases h | skip
    exact ⟨ε, rfl⟩
end Ev.K22
namespace Ev.K22
open PySem
/-! ### the law, at each draw -/
@[irreducible] def tlS : SL → SL
  | .cons _ r => r
  | _ => .nil
@[irreducible] def hdS : SL → S
  | .cons s _ => s
  | _ => .brk
@[irreducible] def restL : SL := tlS (tlS b_law)
theorem rest0 (a b : D) : outB (exs (callK code 100000 75) 100000 restL [some a, some b, some (.int 0), none, none, none]) = .ok (.bl true) := by kernel_rfl
theorem rest1 (a b : D) : outB (exs (callK code 100000 75) 100000 restL [some a, some b, some (.int 1), none, none, none]) = .ok (.bl true) := by kernel_rfl
theorem rest2 (a b : D) : outB (exs (callK code 100000 75) 100000 restL [some a, some b, some (.int 2), none, none, none]) = .ok (.bl true) := by kernel_rfl
theorem rest3 (a b : D) : outB (exs (callK code 100000 75) 100000 restL [some a, some b, some (.int 3), none, none, none]) = .ok (.bl true) := by kernel_rfl
theorem rest4 (a b : D) : outB (exs (callK code 100000 75) 100000 restL [some a, some b, some (.int 4), none, none, none]) = .ok (.bl true) := by kernel_rfl
theorem rest5 (a b : D) : outB (exs (callK code 100000 75) 100000 restL [some a, some b, some (.int 5), none, none, none]) = .ok (.bl true) := by kernel_rfl
theorem rest6 (a b : D) : outB (exs (callK code 100000 75) 100000 restL [some a, some b, some (.int 6), none, none, none]) = .ok (.bl true) := by kernel_rfl
theorem rest7 (a b : D) : outB (exs (callK code 100000 75) 100000 restL [some a, some b, some (.int 7), none, none, none]) = .ok (.bl true) := by kernel_rfl
theorem rest8 (a b : D) : outB (exs (callK code 100000 75) 100000 restL [some a, some b, some (.int 8), none, none, none]) = .ok (.bl true) := by kernel_rfl
end Ev.K22
namespace Ev.K22
open PySem
/-! ### the law -/
theorem two_st (call : Nat → List D → Res (D × D)) (n : Nat) (s0 s1 : S) (r : SL) {ε0 ε1 ε2 : Env} (e0 : ex call n s0 ε0 = .ok (.nx, ε1)) (e1 : ex call n s1 ε1 = .ok (.nx, ε2)) : exs call n (.cons s0 (.cons s1 r)) ε0 = exs call n r ε2 := by
  rw [exs, e0]
  simp only [Res.bind_ok]
  rw [exs, e1]
  rfl
theorem law_cut : b_law = .cons (hdS b_law) (.cons (hdS (tlS b_law)) restL) := by kernel_rfl
theorem law_s1 : hdS (tlS b_law) = (.asg 2 (.call (some 1) 80 (.ref 1 (.cons (.c (.int 9)) .nil)))) := by kernel_rfl
theorem law_e0 (a : D) : ex (callK code 100000 75) 100000 (hdS b_law) [some a, none, none, none, none, none] = .ok (.nx, [some a, some (.lst [a, .int 0, .int 14422, .int 0]), none, none, none, none]) := by kernel_rfl
theorem law_e1 {call : Nat → List D → Res (D × D)} {a b c : D} {v : Int} (h : call i__law_taken [b, .int 9] = .ok (.int v, c)) : ex call 100000 (hdS (tlS b_law)) [some a, some b, none, none, none, none] = .ok (.nx, [some a, some c, some (.int v), none, none, none]) := by
  rw [law_s1]
  simp only [i__law_taken] at h
  simp [ex, ev, evA, argsD, getE, setO, h]
theorem first (ns : List Int) : ∃ (v : Int) (b : D), 0 ≤ v ∧ v < 9 ∧ exs (callK code 100000 75) 100000 b_law [some (.rol (ns.map .int)), none, none, none, none, none] = exs (callK code 100000 75) 100000 restL [some (.rol (ns.map .int)), some b, some (.int v), none, none, none] := by
  obtain ⟨v, a', b', c', h1, h2, _, h4⟩ := r_taken 100000 74 ns 0 14422 0 9 (by omega) (by omega) (by omega)
  refine ⟨v, rowD ns a' b' c', h1, h2, ?_⟩
  have q := two_st (callK code 100000 75) 100000 (hdS b_law) (hdS (tlS b_law)) restL (law_e0 (.rol (ns.map .int))) (law_e1 h4)
  rw [← law_cut] at q
  exact q
theorem math : ∀ ns : List Int, ns.length ≤ 63 → ∃ o, callK code 100000 76 i_law [.rol (ns.map .int)] = .ok (.bl true, o) := by
  intro ns _
  obtain ⟨v, b, h1, h2, h⟩ := first ns
  have hv : v = 0 ∨ v = 1 ∨ v = 2 ∨ v = 3 ∨ v = 4 ∨ v = 5 ∨ v = 6 ∨ v = 7 ∨ v = 8 := by omega
  have hr : outB (exs (callK code 100000 75) 100000 restL [some (.rol (ns.map .int)), some b, some (.int v), none, none, none]) = .ok (.bl true) := by
    rcases hv with rfl | rfl | rfl | rfl | rfl | rfl | rfl | rfl | rfl
    · exact rest0 _ _
    · exact rest1 _ _
    · exact rest2 _ _
    · exact rest3 _ _
    · exact rest4 _ _
    · exact rest5 _ _
    · exact rest6 _ _
    · exact rest7 _ _
    · exact rest8 _ _
  obtain ⟨ε, hε⟩ := outB_ok hr
  have hb := h.trans hε
  refine ⟨.non, ?_⟩
  rw [call_succ 100000 75 i_law F_law _ rfl]
  have hl : runF (callK code 100000 75) 100000 F_law [.rol (ns.map .int)] = (exs (callK code 100000 75) 100000 b_law [some (.rol (ns.map .int)), none, none, none, none, none]).bind fun q => match q.1 with
    | .rt d => (.ok (d, .non) : Res (D × D))
    | .nx => .ok (.non, .non)
    | _ => .no := by
    unfold runF
    rfl
  rw [hl, hb]
  rfl
end Ev.K22
/-! ### the classes of exceptions keep what raising wants -/
namespace Ev
open PySem PySem.Spec PyProof.Rows L2
/-- the class of number n -/
def nameX (gs : List (Str × GV)) (n : Nat) : Option (Str × Option Str) := gs.findSome? fun p => match p.2 with
  | .exc m f => if m = n then some (p.1, f) else none
  | _ => none
def gsX (gs : List (Str × GV)) : Bool := gs.all fun p => match p.2 with
  | .exc m f => decide (nameX gs m = some (p.1, f))
  | _ => true
theorem exa_name (gs : List (Str × GV)) (K : PySem.W.Frag) (n : Nat) : exaOf gs K n = (nameX gs n).map fun q => (He.ga K q.1, q.2) := by
  unfold exaOf nameX
  induction gs with
  | nil => rfl
  | cons p r ih =>
    rw [List.findSome?_cons, List.findSome?_cons]
    obtain ⟨x, g⟩ := p
    cases g with
    | exc m f =>
      dsimp only
      by_cases h : m = n
      · rw [if_pos h, if_pos h]; rfl
      · rw [if_neg h, if_neg h]; exact ih
    | _ => exact ih
theorem oexB_ok {K : PySem.W.Frag} {c : Addr} (h : oexB K c = true) : OexC K c := by
  unfold oexB at h
  rw [Bool.and_eq_true, Bool.and_eq_true, Bool.and_eq_true, Bool.and_eq_true] at h
  obtain ⟨h1, h2, h3, h4, h5⟩ := h
  refine ⟨?_, of_decide_eq_true h2, of_decide_eq_true h3, of_decide_eq_true h4, h5⟩
  split at h1
  · rename_i dd cd sl ho
    split at h1
    · rename_i c' bm k0 k1 k2 k3 n k5 hm hs
      rw [Bool.and_eq_true, Bool.and_eq_true, Bool.and_eq_true, Bool.and_eq_true] at h1
      obtain ⟨e1, e2, e3', e4, e5⟩ := h1
      have e1 := of_decide_eq_true e1
      have e2 := of_decide_eq_true e2
      have e3 : cd.hasDel = false := by simpa using e3'
      clear e3'
      subst e1 e2
      obtain ⟨nm, bs, mro, ns, qn, hd, sn, sub, ab, col, del⟩ := cd
      dsimp only at hm e3 e4
      subst hm e3 e4
      have hsl : sl = #[k0, k1, k2, k3, some (.builtin "ValueError.__new__"), k5] := by
        obtain ⟨l⟩ := sl
        simp only at hs
        rw [hs]
      subst hsl
      exact ⟨nm, qn, ns, bs, bm, sn, sub, ab, col, dd, k0, k1, k2, k3, k5, ho, e5⟩
    · cases h1
  · cases h1
/-- an __init__ found -/
theorem ini_ok {P : Program} {w : World} {K : PySem.W.Frag} {mg : Str → Option Value} {base : Heap} {c fI : Addr} {fd : FuncData} {i : IniI} (ok : i.ok = true) (T : OexC K c) (hno : PySem.W.findIn K (.ref c) i.f = some none) (F : FunD K "__init__" i.qual i.args i.body i.scope [] [] fI fd) :
    FnOk P w K mg base C8.CX0 1 fI fd [i.sf, i.pn] (PT.spIni c i.f) := by
  obtain ⟨oc, od, dV, kV, doc, pm, an, cdv, ct, osl, rfl, lk, hcd, _, _⟩ := F.ex
  unfold IniI.ok at ok
  split at ok
  · rename_i sf p3 g p4 pn p5 p6 hb
    rw [hb] at lk ⊢
    simp only [Bool.and_eq_true, decide_eq_true_eq, Bool.not_eq_true'] at ok
    obtain ⟨rfl, rfl, rfl, o4, o5, o6, o7, o8⟩ := ok
    exact PT.fn_ini T hno lk hcd (C8.fnScope_by o4) o5 o6 o7 o8
  · cases ok
theorem exc_all {gs : List (Str × GV)} {ds : List DefI} {inis : List IniI} {l : PySem.W.OpenLaw} {w : World} {K : PySem.W.Frag} {h : Heap} {mg : Str → Option Value} {base : Heap} (X : K.In h) (G : h.Ns mainGlobals mg) (hx : gsX gs = true) (he : exOf gs K = true)
    (hi : (gs.all fun p => match p.2 with
      | .exc _ (some f) => inis.any fun i => decide (i.x = p.1) && decide (i.f = f)
      | _ => true) = true) (hok : inis.all IniI.ok = true)
    (hf : ∀ i ∈ inis, ∃ fd, FunD K "__init__" i.qual i.args i.body i.scope [] [] (He.ma K (He.ga K i.x) "__init__") fd ∧ Binds K fd [i.sf, i.pn] []) :
    ∀ x n f, gs.lookup x = some (.exc n f) → ExOk (runOf l w K mg gs ds base).cn0 x n f := by
  intro x n f e
  have m := lookup_mem' e
  have q1 := of_decide_eq_true (List.all_eq_true.mp hx _ m)
  have q2 := List.all_eq_true.mp he _ m
  have q3 := List.all_eq_true.mp hi _ m
  dsimp only at q1 q2 q3
  have ea : exaOf gs K n = some (He.ga K x, f) := by rw [exa_name, q1] <;> rfl
  unfold excB at q2
  cases hn : PySem.W.nsIn K mainGlobals x with
  | none => rw [hn] at q2; cases q2
  | some o =>
    rw [hn] at q2
    cases o with
    | none => cases q2
    | some u =>
      cases u with
      | ref c =>
        have hm : mg x = some (.ref c) := PySem.W.mg_of X G hn
        have hga : He.ga K x = c := by unfold He.ga; rw [hn]
        rw [hga] at ea
        cases f with
        | none =>
          dsimp only at q2
          rw [Bool.and_eq_true, Bool.and_eq_true, Bool.and_eq_true] at q2
          obtain ⟨a1, a2, a3, a4⟩ := q2
          exact ⟨c, hm, a1, a2, of_decide_eq_true a3, of_decide_eq_true a4, fun H => ⟨c, none, ea, rfl, rfl, rfl⟩⟩
        | some g =>
          dsimp only at q2 q3
          rw [Bool.and_eq_true, Bool.and_eq_true] at q2
          obtain ⟨a1, a2, a3⟩ := q2
          have a2 := of_decide_eq_true a2
          have T := oexB_ok a1
          obtain ⟨i, mi, hi2⟩ := List.any_eq_true.mp q3
          rw [Bool.and_eq_true] at hi2
          have e1 := of_decide_eq_true hi2.1
          have e2 := of_decide_eq_true hi2.2
          obtain ⟨fd, F, hb⟩ := hf i mi
          rw [e1, hga] at F
          split at a3
          · rename_i fI hfi
            have a3 := of_decide_eq_true a3
            have hma : He.ma K c "__init__" = fI := by unfold He.ma; rw [hfi]
            rw [hma] at F
            have ok := ini_ok (P := l.prog) (w := w) (mg := mg) (base := base) (List.all_eq_true.mp hok i mi) T (by rw [e2]; exact a2) F
            rw [e2] at ok
            exact ⟨c, fI, fd, _, hm, T, hfi, a3, ok, hb, fun H d y v im hd => ⟨c, some g, ea, rfl, d, v, rfl, im, hd⟩⟩
          · cases a3
      | _ => cases q2
end Ev
/-! ### a def that tells which exception a lambda lets out -/
namespace Ev
open PySem PySem.Spec PyProof.Rows L2 LamX
theorem takes_len {X : Cx} {W : WX} (tk : Takes X W) : Takes X (fun cls d σ H => σ.length = X.N.length → W cls d σ H) := fun u s' ⟨a, B, sI, pins, σ, H, cls, d, e, I, nb, up, sky, na, os, ag, w⟩ =>
  tk u s' ⟨a, B, sI, pins, σ, H, cls, d, e, I, nb, up, sky, na, os, ag, w I.len⟩
abbrev tX (X : Cx) (Ng : List Str) (x : Str) (sg : Scope) (g : Addr) (cdg : Value) (s : Shared) (H : Hp) : Cx := (cxOf C8.CX0 X.prog X.w X.K X.mg X.base Ng x sg g cdg X.A X.stack s H C8.E0).nox
/-- try: a() / except CE as e: suite / return None -/
theorem told_gives {X : Cx} {Ng : List Str} {x a e ce q : Str} {sg : Scope} {g CS : Addr} {cdg : Value} {b₀ : Stmt} {suite : List Stmt} {ts : Addr → Value → Option Addr → TS} {TT : (XK → Hp → VK → Prop) → Hp → VK → Prop} {j : Nat} {p1 p2 p3 p4 p5 p7 p8 p9 : Pos}
    (hN : Ng.Nodup) (hi : Ng[1]? = some e) (h0 : Ng[0]? = some a) (hln : sg.names.lookup e = some .local) (hk : sg.kind = .function) (hge : sg.names.lookup ce = some .globalImplicit) (hme : X.mg ce = some (.ref CS)) (hde : (ce == ("__debug__" : Str)) = false)
    (hsu : ∀ (s : Shared) (H : Hp) (a : Addr) (oe : Obj) (cls : Value) (d : Option Addr) (pn : List (Addr × Obj)), Zc cls d oe → (∃ vs, oe.data = .fields vs) → PSs ((tX X Ng x sg g cdg s H).suite a ((a, oe) :: pn)) (b₀ :: suite) (ts a cls d))
    (hTT : ∀ (tl : XK → Hp → VK → Prop) (H : Hp) (Q : VK), TT tl H Q → ∃ Ech : XK, tl Ech H (fun _ H' => Q .non H') ∧ ∀ cls d H', Ech cls d H' → PySem.W.exmOne X.K cls (.ref CS) = some true ∧ ∀ (σ : L2.St) (a : Addr) (nx : L2.St → Hp → Prop), σ.length = Ng.length → H' a = none →
      ts a cls d { nx := nx, rt := Q } (σ.set 1 (some (.ref a))) H') :
    GivesTo X Ng x sg g cdg [.Try [.Expr (.Call (.Name a p1) [] [] p2) p3] [.ExceptHandler (some (.Name ce p4)) (some e) (b₀ :: suite) p7] [] [] p8, .Return (some (.Constant .none j p5)) p9] a q TT := by
  intro f c' s H Q tl act hc h
  obtain ⟨Ech, h1, h2⟩ := hTT tl H Q h
  have hgl : Gl (tX X Ng x sg g cdg s H) ce := hge
  refine ⟨_, pss_cons (ps_try_as (X := tX X Ng x sg g cdg s H) (i := 1) (c := .ref CS) (ts := ts) (Wout := fun _ _ _ _ => False)
      (tb := fun W D σ H => σ[0]? = some (some (.ref f)) ∧ H c' = some (CodeO c' q) ∧ ∃ E : XK, (∀ cls d H', E cls d H' → ∀ σ' : L2.St, σ'.length = Ng.length → W cls d σ' H') ∧ tl E H fun _ H' => D.nx σ H')
      rfl rfl hN hi hln ⟨hgl, hde, .inl hme⟩ takes0 (fun W pn xe tk _ => ?_) (fun a oe cls d pn hz hf => hsu s H a oe cls d pn hz hf)) (pss_one (ps_ret pe_non)), ?_⟩
  · refine ⟨fun pins s' σ H' D I h' => ?_⟩
    obtain ⟨e1, e2, E, hE, ht⟩ := h'
    have hp := act _ pn xe E p1 p2 (takes_len tk) (fun cls d σ' H' z hl => hE cls d H' z σ' hl)
    have hq := pss_one (ps_expr (pos := p3) hp (by first | rfl | (intros; rfl)))
    exact hq.run pins s' σ H' D I ⟨e1, e2, ht⟩
  · have e0 : (start Ng [V.ref f])[0]? = some (some (V.ref f)) := rfl
    refine ⟨e0, hc, Ech, fun cls d H' z σ' hl => ?_, h1⟩
    obtain ⟨k1, k2⟩ := h2 cls d H' z
    exact ⟨true, k1, fun _ a ha => k2 σ' a _ hl ha, fun z => by cases z⟩
end Ev
/-! ### the suite of a def that tells: which class is it -/
namespace Ev
open PySem PySem.Spec PyProof.Rows L2 LamX
/-- is c a class of the exception's -/
def kb (K : PySem.W.Frag) (cls : Value) (c : Addr) : Bool := match cls with
  | .ref D => (PySem.W.kitOne K (.ref D) (.ref c)).getD false
  | _ => false
structure IsC (K : PySem.W.Frag) (cls : Value) (d : Option Addr) (H : Hp) : Prop where
  cl : ∃ D, cls = .ref D ∧ ExcC K D
  dd : ∀ dd, d = some dd → ∃ fs, H dd = some (.xd fs)
theorem IsC.mono {K : PySem.W.Frag} {cls : Value} {d : Option Addr} {H H' : Hp} (h : IsC K cls d H) (k : ∀ b o, H b = some o → H' b = some o) : IsC K cls d H' := ⟨h.cl, fun dd e => let ⟨fs, z⟩ := h.dd dd e; ⟨fs, k _ _ z⟩⟩
def Kn (K : PySem.W.Frag) (cls : Value) (c : Addr) : Prop := ∀ D, cls = .ref D → ∃ b, PySem.W.kitOne K (.ref D) (.ref c) = some b
section
variable {X : Cx} {a : Addr} {oe : Obj} {cls : Value} {d : Option Addr} {pn : List (Addr × Obj)} {e : Str} {ad : Str → Addr}
def rIsX (K : PySem.W.Frag) (a : Addr) (cls : Value) (d : Option Addr) : List V → Hp → VK → Prop := fun xs H Q => IsC K cls d H ∧ ∃ c, xs = [.ref a, .ref c] ∧ Kn K cls c ∧ Q (.bl (kb K cls c)) H
theorem call_isX (hz : Zc cls d oe) (hf : ∃ vs, oe.data = .fields vs) : CallR (X.suite a ((a, oe) :: pn)) (.builtin "isinstance") (rIsX X.K a cls d) := by
  intro pins s σ H xs us Q I r ⟨hc, c, exs, hk, q⟩
  obtain ⟨D, rfl, hD⟩ := hc.cl
  obtain ⟨b, hb⟩ := hk D rfl
  refine PT.call_isD hD hz hf pins s σ H xs us Q I r ⟨.ref c, .ref c, b, exs, fun u ru => ru, hb, hc.dd, ?_⟩
  unfold kb at q
  dsimp only at q
  rw [hb] at q
  exact q
/-- the tests' shape -/
def isB (e : Str) : List Expr → List Str → Bool
  | [], [] => true
  | .Call (.Name f _) [.Name x _, .Name y _] [] _ :: es, n :: ns => decide (f = "isinstance") && (decide (x = e) && (decide (y = n) && isB e es ns))
  | _, _ => false
def tIss (K : PySem.W.Frag) (a : Addr) (cls : Value) (d : Option Addr) (cs : List Addr) : TA := fun σ H Q => IsC K cls d H ∧ σ[1]? = some (some (.ref a)) ∧ (∀ c ∈ cs, Kn K cls c) ∧ Q (cs.map fun c => V.bl (kb K cls c)) H
theorem pa_iss (hz : Zc cls d oe) (hf : ∃ vs, oe.data = .fields vs) (hi : X.N[1]? = some e) (hl : X.env.scope.names.lookup e = some .local) (d1 : (e == ("__debug__" : Str)) = false) (d2 : (e == ("__classdict__" : Str)) = false) (hg : Gl X "isinstance") (hm : X.mg "isinstance" = none) :
    ∀ (es : List Expr) (ns : List Str), isB e es ns = true → (∀ n ∈ ns, X.mg n = some (.ref (ad n)) ∧ Gl X n ∧ (n == ("__debug__" : Str)) = false) → PA (X.suite a ((a, oe) :: pn)) es (tIss X.K a cls d (ns.map ad)) ∧ (∀ y ∈ es, nost y = true) := by
  intro es
  induction es with
  | nil =>
    intro ns h _
    cases ns with
    | nil => exact ⟨PA.imp pa_nil fun σ H Q w => w.2.2.2, fun y hy => by cases hy⟩
    | cons n ns => cases h
  | cons x es ih =>
    intro ns h hn
    unfold isB at h
    split at h
    · exact absurd (by assumption : x :: es = []) (by simp)
    · rename_i f p1 x0 p2 y p3 p4 es0 n ns0 e1
      cases e1
      simp only [Bool.and_eq_true, decide_eq_true_eq] at h
      obtain ⟨rfl, rfl, rfl, h⟩ := h
      obtain ⟨m1, m2, m3⟩ := hn _ List.mem_cons_self
      obtain ⟨ih1, ih2⟩ := ih ns0 h fun n hn' => hn n (List.mem_cons_of_mem _ hn')
      have hp : PE (X.suite a ((a, oe) :: pn)) (.Call (.Name "isinstance" p1) [.Name x0 p2, .Name y p3] [] p4) (tCB (rIsX X.K a cls d) (tCons (tVar 1) (tCons (tC (.ref (ad y))) tNil))) :=
        pe_callB (call_isX hz hf) hg hm (by decide +kernel) (pa_cons (pe_var (i := 1) hi (.inl hl) d1 d2) (pa_cons (pe_glob m2 m1 rfl m3) pa_nil rfl) rfl) (by decide) (by decide) rfl rfl
      refine ⟨PA.imp (pa_cons hp ih1 rfl) fun σ H Q ⟨w1, w2, w3, w4⟩ => ?_, fun z hz => ?_⟩
      · refine ⟨.ref a, w2, w1, ad y, rfl, w3 _ (by simp), w1, w2, fun c hc => w3 c (by simp at hc ⊢; exact .inr hc), w4⟩
      · rcases List.mem_cons.mp hz with rfl | hz
        · rfl
        · exact ih2 z hz
    · cases h
def bsOf (K : PySem.W.Frag) (cls : Value) (cs : List Addr) : List V := cs.map fun c => V.bl (kb K cls c)
/-- some = [isinstance(..), ..] -/
theorem st_iss {es : List Expr} {cs : List Addr} {sm : Str} {p1 p2 p3 : Pos} (hN : X.N.Nodup) (hi : X.N[2]? = some sm) (hl : X.env.scope.names.lookup sm = some .local) (hp : PA (X.suite a ((a, oe) :: pn)) es (tIss X.K a cls d cs)) :
    PS (X.suite a ((a, oe) :: pn)) (.Assign [.Name sm p1] (.List es p2) p3) (fun D σ H => IsC X.K cls d H ∧ σ[1]? = some (some (.ref a)) ∧ (∀ c ∈ cs, Kn X.K cls c) ∧ cs.length ≤ 100 ∧ ∀ p, H p = none → D.nx (σ.set 2 (some (.ref p))) (upd H p (.lst (bsOf X.K cls cs)))) :=
  PS.imp (ps_set hN hi (.inl hl) (pe_lst hp) rfl (.inr hl)) fun D σ H ⟨w1, w2, w3, w4, w5⟩ => ⟨w1, w2, w3, by rw [List.length_map, sizeLine_eq]; omega, fun p hp => w5 p hp⟩
/-- some = some + [isinstance(..), ..] -/
theorem st_cat {es : List Expr} {cs : List Addr} {sm : Str} {p1 p2 p3 p4 p5 : Pos} (hN : X.N.Nodup) (hi : X.N[2]? = some sm) (hl : X.env.scope.names.lookup sm = some .local) (d1 : (sm == ("__debug__" : Str)) = false) (d2 : (sm == ("__classdict__" : Str)) = false) (hp : PA (X.suite a ((a, oe) :: pn)) es (tIss X.K a cls d cs)) :
    PS (X.suite a ((a, oe) :: pn)) (.Assign [.Name sm p1] (.BinOp (.Name sm p2) .Add (.List es p3) p4) p5) (fun D σ H => IsC X.K cls d H ∧ σ[1]? = some (some (.ref a)) ∧ (∀ c ∈ cs, Kn X.K cls c) ∧ cs.length ≤ 100 ∧ ∃ p xs, σ[2]? = some (some (.ref p)) ∧ H p = some (.lst xs) ∧ xs.length ≤ 100 ∧
      ∀ q r, H q = none → H r = none → r ≠ q → D.nx (σ.set 2 (some (.ref r))) (upd (upd H q (.lst (bsOf X.K cls cs))) r (.lst (xs ++ bsOf X.K cls cs)))) := by
  refine PS.imp (ps_set hN hi (.inl hl) (pe_op op_cat (pe_var (i := 2) hi (.inl hl) d1 d2) (pe_lst hp)) rfl (.inr hl)) fun D σ H ⟨w1, w2, w3, w4, p, xs, w5, w6, w7, w8⟩ => ?_
  refine ⟨.ref p, w5, w1, w2, w3, by rw [List.length_map, sizeLine_eq]; omega, fun q hq => ⟨p, q, xs, bsOf X.K cls cs, rfl, rfl, by rw [upd_ne (ne_of_none w6 hq)]; exact w6, upd_same, ?_, fun r hr => ?_⟩⟩
  · unfold bsOf
    rw [List.length_map, sizeLine_eq]
    omega
  · have hrq : r ≠ q := fun z => by rw [z, upd_same] at hr; cases hr
    rw [upd_ne hrq] at hr
    exact w8 q r hq hr hrq
end
end Ev
/-! ### the word of the one class that is told; the whole suite -/
namespace Ev
open PySem PySem.Spec PyProof.Rows L2 LamX
section
variable {X : Cx} {a : Addr} {oe : Obj} {cls : Value} {d : Option Addr} {pn : List (Addr × Obj)} {e : Str} {ad : Str → Addr}
/-- words[some.index(True)] if some.count(True) == 1 else other -/
def tWord : TE := fun σ H Q => ∃ (p q : Addr) (bs : List Bool) (ws : List Str) (j : Nat) (w : Str), σ[2]? = some (some (.ref p)) ∧ H p = some (.lst (bs.map .bl)) ∧ σ[3]? = some (some (.ref q)) ∧ H q = some (.lst (ws.map .str)) ∧
  bs.count true = 1 ∧ bs[j]? = some true ∧ (∀ m, m < j → bs[m]? = some false) ∧ ws[j]? = some w ∧ Q (.str w) H
theorem cntT (bs : List Bool) : (bs.map V.bl).countP (fun z => eqV z (.bl true)) = bs.count true := by
  induction bs with
  | nil => rfl
  | cons b r ih =>
    rw [List.map_cons, List.countP_cons, List.count_cons, ih]
    cases b <;> rfl
theorem flatBs (bs : List Bool) : (bs.map V.bl).all flatV = true := by
  rw [List.all_map]
  exact List.all_eq_true.mpr fun _ _ => rfl
theorem pe_word {sm wn oth : Str} {j1 j2 j3 j4 : Nat} {q2 q3 q4 q5 q6 q7 q8 q9 r1 r2 r3 r4 r5 r6 : Pos} (h2 : X.N[2]? = some sm) (l2 : X.env.scope.names.lookup sm = some .local) (h3 : X.N[3]? = some wn) (l3 : X.env.scope.names.lookup wn = some .local)
    (d1 : (sm == ("__debug__" : Str)) = false) (d2 : (sm == ("__classdict__" : Str)) = false) (d3 : (wn == ("__debug__" : Str)) = false) (d4 : (wn == ("__classdict__" : Str)) = false)
    (hl1 : (q3.endLine == q5.line) = true) (hl2 : (r3.endLine == r5.line) = true) :
    PE (X.suite a ((a, oe) :: pn)) (.IfExp (.Compare (.Call (.Attribute (.Name sm q2) "count" q3) [.Constant (.bool true) j1 q4] [] q5) [.Eq] [.Constant (.int 1) j2 q6] q7)
      (.Subscript (.Name wn r1) (.Call (.Attribute (.Name sm r2) "index" r3) [.Constant (.bool true) j3 r4] [] r5) r6) (.Constant (.str oth) j4 q8) q9) tWord := by
  have pv2 : ∀ p : Pos, PE (X.suite a ((a, oe) :: pn)) (.Name sm p) (tVar 2) := fun p => pe_var (i := 2) h2 (.inl l2) d1 d2
  have pv3 : ∀ p : Pos, PE (X.suite a ((a, oe) :: pn)) (.Name wn p) (tVar 3) := fun p => pe_var (i := 3) h3 (.inl l3) d3 d4
  have hc := pe_bm (cpos := q5) (apos := q3) PySem.F.plainAttrs_list PySem.F.slot_list_count PySem.F.type_list_count PT.mt_cntF (pv2 q2) (pa_cons (pe_bl (b := true) (j := j1) (pos := q4)) pa_nil rfl) (by rfl) (by rfl) hl1 (by rfl) (by rfl)
  have hx := pe_bm (cpos := r5) (apos := r3) PySem.F.plainAttrs_list PySem.F.slot_list_index PySem.F.type_list_index mt_index (pv2 r2) (pa_cons (pe_bl (b := true) (j := j3) (pos := r4)) pa_nil rfl) (by rfl) (by rfl) hl2 (by rfl) (by rfl)
  refine PE.imp (pe_ifExp (pt_cmpR op_eq hc (pe_int (i := 1)) rfl) (pe_ix ix_list (pv3 r1) hx (fun _ _ => rfl)) (pe_str (x := oth))) fun σ H Q ⟨p, q, bs, ws, j, w, e1, e2, e3, e4, e5, e6, e7, e8, e9⟩ => ?_
  have sq : SqL X.K H p (bs.map V.bl) := SqL.of e2
  have el : ∀ m b, bs[m]? = some b → (bs.map V.bl)[m]? = some (V.bl b) := fun m b h => by rw [List.getElem?_map, h] <;> rfl
  refine ⟨.ref p, e1, .inl ⟨rfl, _, sq⟩, p, bs.map V.bl, .bl true, rfl, rfl, sq, rfl, flatBs bs, rfl, ?_⟩
  rw [cntT, e5]
  refine ⟨true, rfl, .ref q, e3, .ref p, e1, .inl ⟨rfl, _, sq⟩, p, bs.map V.bl, .bl true, j, .bl true, rfl, rfl, sq, rfl, flatBs bs, el j true e6, rfl, fun m z hm hz => ?_, ?_⟩
  · rw [el m false (e7 m hm)] at hz
    cases hz
    rfl
  · exact ⟨q, ws.map V.str, (j : Nat), .str w, rfl, rfl, SqL.of e4, atI_nat (by rw [List.getElem?_map, e8] <;> rfl), e9⟩
/-- words = [..] -/
def strB : List Expr → List Str → Bool
  | [], [] => true
  | .Constant (.str x) _ _ :: es, w :: ws => decide (x = w) && strB es ws
  | _, _ => false
theorem pa_strs : ∀ (es : List Expr) (ws : List Str), strB es ws = true → PA X es (fun _ H Q => Q (ws.map V.str) H) := by
  intro es
  induction es with
  | nil =>
    intro ws h
    cases ws with
    | nil => exact PA.imp pa_nil fun σ H Q w => w
    | cons n ns => cases h
  | cons x es ih =>
    intro ws h
    unfold strB at h
    split at h
    · exact absurd (by assumption : x :: es = []) (by simp)
    · rename_i y j p es0 w ws0 e1
      cases e1
      rw [Bool.and_eq_true, decide_eq_true_eq] at h
      obtain ⟨rfl, h⟩ := h
      exact PA.imp (pa_cons pe_str (ih ws0 h) rfl) fun σ H Q w => w
    · cases h
theorem st_words {es : List Expr} {ws : List Str} {wn : Str} {p1 p2 p3 : Pos} (hN : X.N.Nodup) (hi : X.N[3]? = some wn) (hl : X.env.scope.names.lookup wn = some .local) (hw : strB es ws = true) (hl2 : ws.length ≤ 100) :
    PS (X.suite a ((a, oe) :: pn)) (.Assign [.Name wn p1] (.List es p2) p3) (fun D σ H => ∀ p, H p = none → D.nx (σ.set 3 (some (.ref p))) (upd H p (.lst (ws.map V.str)))) :=
  PS.imp (ps_set hN hi (.inl hl) (pe_lst (pa_strs es ws hw)) rfl (.inr hl)) fun D σ H w => ⟨by rw [List.length_map, sizeLine_eq]; omega, fun p hp => w p hp⟩
end
end Ev
/-! ### the whole def that tells a word -/
namespace Ev
open PySem PySem.Spec PyProof.Rows L2 LamX
def TolI.nm (t : TolI) : Bool := C8.scC [t.a, t.e, t.sm, t.wn] [t.a] t.scope && ([t.e, t.sm, t.wn].all (fun y => decide (t.scope.names.lookup y = some .local)) && ([t.a, t.e, t.sm, t.wn].all (fun y => !(y == ("__debug__" : Str)) && !(y == ("__classdict__" : Str))) &&
  (decide (t.scope.names.lookup t.ce = some .globalImplicit) && (!(t.ce == ("__debug__" : Str)) && (decide (t.scope.names.lookup ("isinstance" : Str) = some .globalImplicit) && (t.ns.all (fun y => decide (t.scope.names.lookup y = some .globalImplicit) && !(y == ("__debug__" : Str))) && (decide (t.ws.length = t.ns.length) && (decide (t.ns.length ≤ 100) && decide t.ns.Nodup))))))))
def TolI.ok (t : TolI) : Bool := t.nm && match t.body with
  | [.Try [.Expr (.Call (.Name a _) [] [] _) _] [.ExceptHandler (some (.Name ce _)) (some e) [.Assign [.Name s1 _] (.List es1 _) _, .Assign [.Name s2 _] (.BinOp (.Name s2' _) .Add (.List es2 _) _) _, .Assign [.Name s3 _] (.BinOp (.Name s3' _) .Add (.List es3 _) _) _,
      .Assign [.Name wn _] (.List ews _) _, .Return (some (.IfExp (.Compare (.Call (.Attribute (.Name s4 _) m1 q3) [.Constant (.bool true) _ _] [] q5) [.Eq] [.Constant (.int (.ofNat 1)) _ _] _)
        (.Subscript (.Name wn' _) (.Call (.Attribute (.Name s5 _) m2 r3) [.Constant (.bool true) _ _] [] r5) _) (.Constant (.str _) _ _) _)) _] _] [] [] _, .Return (some (.Constant .none _ _)) _] =>
    decide (a = t.a) && (decide (ce = t.ce) && (decide (e = t.e) && (decide (s1 = t.sm) && (decide (s2 = t.sm) && (decide (s2' = t.sm) && (decide (s3 = t.sm) && (decide (s3' = t.sm) && (decide (wn = t.wn) && (decide (s4 = t.sm) && (decide (wn' = t.wn) && (decide (s5 = t.sm) && (decide (m1 = "count") && (decide (m2 = "index") &&
    (isB t.e es1 t.l1 && (isB t.e es2 t.l2 && (isB t.e es3 t.l3 && (strB ews t.ws && ((q3.endLine == q5.line) && (r3.endLine == r5.line)))))))))))))))))))
  | _ => false
theorem excCB_ok {K : PySem.W.Frag} {D : Addr} (h : excCB K D = true) : ExcC K D := by
  unfold excCB at h
  simp only [Bool.and_eq_true, decide_eq_true_eq] at h
  obtain ⟨h1, h2, h3, h4, h5, h6, h7, h8⟩ := h
  exact ⟨h1, h2, h3, h4, h5, h6, h7, h8⟩
theorem one_true {ns : List Str} (hn : ns.Nodup) {n : Nat} {x : Str} (hx : ns[n]? = some x) : ((ns.map fun y => decide (x = y)).count true = 1) ∧ (ns.map fun y => decide (x = y))[n]? = some true ∧ ∀ m, m < n → (ns.map fun y => decide (x = y))[m]? = some false := by
  have hl := (List.getElem?_eq_some_iff.mp hx).1
  have hxe := (List.getElem?_eq_some_iff.mp hx).2
  refine ⟨?_, by rw [List.getElem?_map, hx]; simp, fun m hm => ?_⟩
  · rw [List.count_eq_countP, List.countP_map]
    have e : ((fun b : Bool => b == true) ∘ fun y => decide (x = y)) = fun y : Str => y == x := by
      funext y
      simp only [Function.comp, beq_true]
      by_cases h : x = y
      · subst h; simp
      · simp [h, Ne.symm h]
    rw [e]
    show ns.count x = 1
    rw [hn.count, if_pos (List.mem_of_getElem? hx)]
  · have hml : m < ns.length := by omega
    rw [List.getElem?_map, List.getElem?_eq_getElem hml]
    have hne : x ≠ ns[m] := fun z => by
      have := (List.getElem_inj hn (h₀ := hl) (h₁ := hml)).mp (by rw [hxe, z])
      omega
    simp [hne]
/-- the suite: the word of the one class -/
def tSu (K : PySem.W.Frag) (cs1 cs2 cs3 : List Addr) (ws : List Str) (a : Addr) (cls : Value) (d : Option Addr) : TS := fun D σ H => IsC K cls d H ∧ σ[1]? = some (some (.ref a)) ∧ σ.length = 4 ∧ (∀ c ∈ cs1 ++ cs2 ++ cs3, Kn K cls c) ∧ (cs1 ++ cs2 ++ cs3).length ≤ 100 ∧
  ∃ (j : Nat) (w : Str), ((cs1 ++ cs2 ++ cs3).map (kb K cls)).count true = 1 ∧ ((cs1 ++ cs2 ++ cs3).map (kb K cls))[j]? = some true ∧ (∀ m, m < j → ((cs1 ++ cs2 ++ cs3).map (kb K cls))[m]? = some false) ∧ ws[j]? = some w ∧ ∀ H' : Hp, (∀ b o, H b = some o → H' b = some o) → D.rt (.str w) H'
theorem upd_ext {H H0 : Hp} {p : Addr} {o : HO} (h : ∀ b u, H b = some u → H0 b = some u) (hp : H0 p = none) : ∀ b u, H b = some u → upd H0 p o b = some u := fun b u e => by
  rw [upd_ne (ne_of_none (h b u e) hp)]
  exact h b u e
theorem su_ok {X : Cx} {a : Addr} {oe : Obj} {cls : Value} {d : Option Addr} {pn : List (Addr × Obj)} {s1 s2 s3 s4 s5 : Stmt} {cs1 cs2 cs3 : List Addr} {ws : List Str}
    (h1 : PS (X.suite a ((a, oe) :: pn)) s1 (fun D σ H => IsC X.K cls d H ∧ σ[1]? = some (some (.ref a)) ∧ (∀ c ∈ cs1, Kn X.K cls c) ∧ cs1.length ≤ 100 ∧ ∀ p, H p = none → D.nx (σ.set 2 (some (.ref p))) (upd H p (.lst (bsOf X.K cls cs1)))))
    (h2 : PS (X.suite a ((a, oe) :: pn)) s2 (fun D σ H => IsC X.K cls d H ∧ σ[1]? = some (some (.ref a)) ∧ (∀ c ∈ cs2, Kn X.K cls c) ∧ cs2.length ≤ 100 ∧ ∃ p xs, σ[2]? = some (some (.ref p)) ∧ H p = some (.lst xs) ∧ xs.length ≤ 100 ∧
      ∀ q r, H q = none → H r = none → r ≠ q → D.nx (σ.set 2 (some (.ref r))) (upd (upd H q (.lst (bsOf X.K cls cs2))) r (.lst (xs ++ bsOf X.K cls cs2)))))
    (h3 : PS (X.suite a ((a, oe) :: pn)) s3 (fun D σ H => IsC X.K cls d H ∧ σ[1]? = some (some (.ref a)) ∧ (∀ c ∈ cs3, Kn X.K cls c) ∧ cs3.length ≤ 100 ∧ ∃ p xs, σ[2]? = some (some (.ref p)) ∧ H p = some (.lst xs) ∧ xs.length ≤ 100 ∧
      ∀ q r, H q = none → H r = none → r ≠ q → D.nx (σ.set 2 (some (.ref r))) (upd (upd H q (.lst (bsOf X.K cls cs3))) r (.lst (xs ++ bsOf X.K cls cs3)))))
    (h4 : PS (X.suite a ((a, oe) :: pn)) s4 (fun D σ H => ∀ p, H p = none → D.nx (σ.set 3 (some (.ref p))) (upd H p (.lst (ws.map V.str))))) (h5 : PS (X.suite a ((a, oe) :: pn)) s5 (fun D σ H => tWord σ H D.rt)) :
    PSs (X.suite a ((a, oe) :: pn)) [s1, s2, s3, s4, s5] (tSu X.K cs1 cs2 cs3 ws a cls d) := by
  refine PSs.imp (pss_cons h1 (pss_cons h2 (pss_cons h3 (pss_cons h4 (pss_one h5))))) fun D σ H ⟨hc, hs, hl, kn, hz, j, w, c1, c2, c3, c4, c5⟩ => ?_
  rw [List.length_append, List.length_append] at hz
  have len : ∀ cs, (bsOf X.K cls cs).length = cs.length := fun cs => by unfold bsOf; rw [List.length_map]
  have g1 : ∀ {τ : L2.St} {v : V}, (τ.set 2 (some v))[1]? = τ[1]? := fun {τ v} => List.getElem?_set_ne (by decide)
  refine ⟨hc, hs, fun c h => kn c (by simp [h]), by omega, fun p hp => ?_⟩
  have x1 : ∀ b u, H b = some u → upd H p (.lst (bsOf X.K cls cs1)) b = some u := upd_ext (fun b u e => e) hp
  refine ⟨hc.mono x1, by rw [g1]; exact hs, fun c h => kn c (by simp [h]), by omega, p, _, List.getElem?_set_self (by omega), upd_same, by rw [len]; omega, fun q r hq hr hrq => ?_⟩
  have hr2 : upd (upd H p (.lst (bsOf X.K cls cs1))) q (.lst (bsOf X.K cls cs2)) r = none := by rw [upd_ne hrq]; exact hr
  have x2 := upd_ext (o := .lst (bsOf X.K cls cs1 ++ bsOf X.K cls cs2)) (upd_ext (o := .lst (bsOf X.K cls cs2)) x1 hq) hr2
  refine ⟨hc.mono x2, by rw [g1, g1]; exact hs, fun c h => kn c (by simp [h]), by omega, r, _, List.getElem?_set_self (by rw [List.length_set]; omega), upd_same, by rw [List.length_append, len, len]; omega, fun q' r' hq' hr' hrq' => ?_⟩
  have hr2' : upd (upd (upd (upd H p (.lst (bsOf X.K cls cs1))) q (.lst (bsOf X.K cls cs2))) r (.lst (bsOf X.K cls cs1 ++ bsOf X.K cls cs2))) q' (.lst (bsOf X.K cls cs3)) r' = none := by rw [upd_ne hrq']; exact hr'
  have x3 := upd_ext (o := .lst (bsOf X.K cls cs1 ++ bsOf X.K cls cs2 ++ bsOf X.K cls cs3)) (upd_ext (o := .lst (bsOf X.K cls cs3)) x2 hq') hr2'
  intro p' hp'
  have x4 := upd_ext (o := .lst (ws.map V.str)) x3 hp'
  refine ⟨r', p', (cs1 ++ cs2 ++ cs3).map (kb X.K cls), ws, j, w, ?_, ?_, List.getElem?_set_self (by simp only [List.length_set]; omega), upd_same, c1, c2, c3, c4, c5 _ x4⟩
  · rw [List.getElem?_set_ne (by decide), List.getElem?_set_self (by simp only [List.length_set]; omega)]
  · have e : ((cs1 ++ cs2 ++ cs3).map (kb X.K cls)).map V.bl = bsOf X.K cls cs1 ++ bsOf X.K cls cs2 ++ bsOf X.K cls cs3 := by
      unfold bsOf
      rw [List.map_append, List.map_append, List.map_append, List.map_append, List.map_map, List.map_map, List.map_map]
      rfl
    rw [e, upd_ne (fun z => by rw [z] at hp'; rw [upd_same] at hp'; cases hp'), upd_same]
theorem told_ok {gs : List (Str × GV)} {ds : List DefI} {l : PySem.W.OpenLaw} {w : World} {K : PySem.W.Frag} {h : Heap} {mg : Str → Option Value} {base : Heap} {t : TolI} {fd : FuncData} (X : K.In h) (G : h.Ns mainGlobals mg) (ok : t.ok = true) (hk : tldB t K = true)
    (hgn : ∀ n x f, nameX gs n = some (x, f) → t.ns[n]? = some x) (F : FunD K t.x t.x t.args t.body t.scope [] [] (He.ga K t.x) fd) (hb : Binds K fd [t.a] []) : TldOk (runOf l w K mg gs ds base).cn0 t.x false (t.ws.map fun s => (s, false)) := by
  obtain ⟨oc, od, dV, kV, doc, pm, an, cdv, ct, osl, rfl, lk, hcd, _, _⟩ := F.ex
  unfold TolI.ok at ok
  rw [Bool.and_eq_true] at ok
  obtain ⟨o1, o2⟩ := ok
  unfold TolI.nm at o1
  simp only [Bool.and_eq_true, decide_eq_true_eq, List.all_eq_true, Bool.not_eq_true'] at o1
  obtain ⟨n1, n2, n3, n4, n5, n6, n7, n8, n9, n10⟩ := o1
  have Sg : FnScope [t.a, t.e, t.sm, t.wn] [t.a] t.scope := C8.fnScope_by n1
  have va : Vis t.scope t.a := (Sg.par t.a (by simp)).elim .inl fun z => .inr (.inl z)
  unfold tldB at hk
  simp only [Bool.and_eq_true, decide_eq_true_eq, List.all_eq_true] at hk
  obtain ⟨k0, k1, k2, k3⟩ := hk
  have hmg := PySem.W.mg_of X G k0
  split at o2
  · rename_i a q0 q00 q01 ce q02 e s1 q1 es1 q2 q20 s2 q21 s2' q22 es2 q23 q24 q25 s3 q26 s3' q27 es3 q28 q29 q30 wn q31 ews q32 q33 s4 q34 m1 q3 q35 q36 q5 q37 q38 q39 wn' q40 s5 q41 m2 r3 q42 q43 r5 q44 q45 q46 q47 q48 q49 q50 q51 q52 q53 q54 hbody
    simp only [Bool.and_eq_true, decide_eq_true_eq] at o2
    obtain ⟨rfl, rfl, rfl, rfl, rfl, rfl, rfl, rfl, rfl, rfl, rfl, rfl, rfl, rfl, b1, b2, b3, b4, b5, b6⟩ := o2
    have hme := PySem.W.mg_of X G k1
    have hmi := PySem.W.mg_none_of X G k2
    have hmn : ∀ n ∈ t.ns, mg n = some (.ref (He.ga K n)) := fun n hn => PySem.W.mg_of X G (k3 n hn).1
    refine ⟨t.a, He.ga K t.x, t.args, t.body, t.scope, dV, kV, doc, pm, cdv, ct, oc, an, od, osl, [t.a, t.e, t.sm, t.wn], hmg, F.kp, lk, hcd, hb, Sg, rfl, va, (n3 t.a (by simp)).1, (n3 t.a (by simp)).2, fun X0 q e1 e2 e3 e4 e5 => ?_⟩
    have e3 : X0.K = K := e3
    have e4 : X0.mg = mg := e4
    have m1 : t.l1 ⊆ t.ns := fun n hn => List.mem_append_left _ (List.mem_append_left _ hn)
    have m2 : t.l2 ⊆ t.ns := fun n hn => List.mem_append_left _ (List.mem_append_right _ hn)
    have m3 : t.l3 ⊆ t.ns := fun n hn => List.mem_append_right _ hn
    have fs : ∀ n ∈ t.ns, X0.mg n = some (.ref (He.ga K n)) ∧ t.scope.names.lookup n = some .globalImplicit ∧ (n == ("__debug__" : Str)) = false := fun n hn => ⟨by rw [e4]; exact hmn n hn, (n7 n hn).1, (n7 n hn).2⟩
    rw [hbody]
    refine told_gives (CS := He.ga K t.ce) (ts := tSu X0.K (t.l1.map (He.ga K)) (t.l2.map (He.ga K)) (t.l3.map (He.ga K)) t.ws) Sg.nd rfl rfl (n2 t.e (by simp)) Sg.kind n4 (by rw [e4]; exact hme) n5 (fun s H a oe cls d pn hz hf => ?_) (fun tl H Q hT => ?_)
    rotate_left
    · refine ⟨_, hT, fun cls dd H' hE => ?_⟩
      obtain ⟨n, y, ⟨c, f, hex, rfl, hpay⟩, hsaid⟩ := hE
      have hex : exaOf gs K n = some (c, f) := hex
      rw [exa_name] at hex
      cases hnx : nameX gs n with
      | none => rw [hnx] at hex; cases hex
      | some xf =>
        obtain ⟨x, f'⟩ := xf
        rw [hnx] at hex
        have hcx : He.ga K x = c ∧ f' = f := by
          have := Option.some.inj hex
          exact ⟨congrArg Prod.fst this, congrArg Prod.snd this⟩
        obtain ⟨rfl, rfl⟩ := hcx
        have hx := hgn n x f' hnx
        have mx : x ∈ t.ns := List.mem_of_getElem? hx
        obtain ⟨kx1, kx2, kx3, kx4⟩ := k3 x mx
        have kn : ∀ z ∈ t.ns, PySem.W.kitOne K (.ref (He.ga K x)) (.ref (He.ga K z)) = some (decide (x = z)) := fun z hz => kx4 z hz
        have kbz : ∀ z ∈ t.ns, kb K (.ref (He.ga K x)) (He.ga K z) = decide (x = z) := fun z hz => by
          unfold kb
          dsimp only
          rw [kn z hz]
          rfl
        have kns : ∀ ns : List Str, ns ⊆ t.ns → ∀ c ∈ ns.map (He.ga K), Kn K (.ref (He.ga K x)) c := fun ns hs c hc D hD => by
          obtain ⟨z, hz, rfl⟩ := List.mem_map.mp hc
          injection hD with hD
          subst hD
          exact ⟨_, kn z (hs hz)⟩
        obtain ⟨u1, u2, u3⟩ := one_true n10 hx
        have hw : ∃ w, t.ws[n]? = some w := ⟨_, List.getElem?_eq_getElem (by rw [n8]; exact (List.getElem?_eq_some_iff.mp hx).1)⟩
        obtain ⟨w, hw⟩ := hw
        refine ⟨by rw [e3]; exact kx3, fun σ a nx hl ha => ?_⟩
        have eall : t.l1.map (He.ga K) ++ t.l2.map (He.ga K) ++ t.l3.map (He.ga K) = t.ns.map (He.ga K) := by
          unfold TolI.ns
          rw [List.map_append, List.map_append]
        have ebs : (t.ns.map (He.ga K)).map (kb K (.ref (He.ga K x))) = t.ns.map fun z => decide (x = z) := by
          rw [List.map_map]
          exact List.map_congr_left fun z hz => kbz z hz
        have wsn : (t.ws.map fun s => (s, false))[n]? = some (w, false) := by rw [List.getElem?_map, hw] <;> rfl
        have hsaid : ∀ H2 : Hp, (∀ b o, H' b = some o → H2 b = some o) → Q (.str w) H2 := fun H2 hx2 => by
          have q := hsaid H2 hx2
          unfold Said at q
          rw [wsn] at q
          exact q
        rw [e3]
        unfold tSu
        rw [eall, ebs]
        refine ⟨⟨⟨_, rfl, excCB_ok kx2⟩, fun dd hd => ?_⟩, ?_, ?_, kns t.ns (fun _ z => z), by rw [List.length_map]; exact n9, n, w, u1, u2, u3, hw, hsaid⟩
        · cases f' with
          | none =>
            rw [hpay.2] at hd
            cases hd
          | some g =>
            obtain ⟨d0, v, rfl, _, hxd⟩ := hpay
            cases hd
            exact ⟨_, hxd⟩
        · exact List.getElem?_set_self (by rw [hl]; show 1 < 4; decide)
        · rw [List.length_set, hl]; rfl
    · have pa : ∀ (es : List Expr) (ns : List Str), isB t.e es ns = true → ns ⊆ t.ns → PA ((tX X0 [t.a, t.e, t.sm, t.wn] t.x t.scope (He.ga K t.x) cdv s H).suite a ((a, oe) :: pn)) es (tIss X0.K a cls d (ns.map (He.ga K))) := fun es ns hB hs =>
        (pa_iss (X := tX X0 [t.a, t.e, t.sm, t.wn] t.x t.scope (He.ga K t.x) cdv s H) (ad := He.ga K) hz hf rfl (n2 t.e (by simp)) (n3 t.e (by simp)).1 (n3 t.e (by simp)).2 n6 (by show X0.mg _ = none; rw [e4]; exact hmi) es ns hB fun n hn => fs n (hs hn)).1
      exact su_ok (X := tX X0 [t.a, t.e, t.sm, t.wn] t.x t.scope (He.ga K t.x) cdv s H) (st_iss Sg.nd rfl (n2 t.sm (by simp)) (pa es1 t.l1 b1 m1)) (st_cat Sg.nd rfl (n2 t.sm (by simp)) (n3 t.sm (by simp)).1 (n3 t.sm (by simp)).2 (pa es2 t.l2 b2 m2)) (st_cat Sg.nd rfl (n2 t.sm (by simp)) (n3 t.sm (by simp)).1 (n3 t.sm (by simp)).2 (pa es3 t.l3 b3 m3))
        (st_words Sg.nd rfl (n2 t.wn (by simp)) b4 (by omega)) (ps_ret (pe_word rfl (n2 t.sm (by simp)) rfl (n2 t.wn (by simp)) (n3 t.sm (by simp)).1 (n3 t.sm (by simp)).2 (n3 t.wn (by simp)).1 (n3 t.wn (by simp)).2 b5 b6))
  · cases o2
/-- all that the classes and the def that tells must be -/
def tldG (gs : List (Str × GV)) (inis : List IniI) (t : TolI) : Bool := gs.all fun p => match p.2 with
  | .exc n f => decide (t.ns[n]? = some p.1) && (match f with
    | some f => inis.any fun i => decide (i.x = p.1) && decide (i.f = f)
    | none => true)
  | .tld v ws => decide (p.1 = t.x) && (decide (v = false) && decide (ws = t.ws.map fun s => (s, false)))
  | _ => true
theorem nameX_mem {gs : List (Str × GV)} {n : Nat} {x : Str} {f : Option Str} (h : nameX gs n = some (x, f)) : (x, GV.exc n f) ∈ gs := by
  unfold nameX at h
  obtain ⟨p, hp, e⟩ := List.exists_of_findSome?_eq_some h
  obtain ⟨y, g⟩ := p
  cases g with
  | exc m f' =>
    dsimp only at e
    by_cases hm : m = n
    · rw [if_pos hm] at e
      cases e
      rw [← hm]
      exact hp
    · rw [if_neg hm] at e
      cases e
  | _ => cases e
theorem exc_told {l : PySem.W.OpenLaw} {w : World} {K : PySem.W.Frag} {h : Heap} {mg : Str → Option Value} {gs : List (Str × GV)} {ds : List DefI} {inis : List IniI} {t : TolI} {tf : List He.Defn} {ex : PySem.W.Frag → Bool} (X : K.In h) (G : h.Ns mainGlobals mg)
    (c : He.SaysX (faOf gs ds) (ds.map DefI.dd ++ (inis.map IniI.dd ++ [t.dd])) [] tf ex w h K) (he : exOf gs K = true) (ht : tldB t K = true) (hx : gsX gs = true) (hg : tldG gs inis t = true) (hok : inis.all IniI.ok = true) (tok : t.ok = true)
    (hbi : ∀ i ∈ inis, ∀ (kV doc pm : Value) (an : Option Addr) (cdv ct : Value) (us : List Value), us.length = [i.sf, i.pn].length → bindArgs (PySem.W.fnOf "__init__" i.qual i.args i.body i.scope .none kV doc pm an cdv ct) ⟨us, []⟩ = pure ([i.sf, i.pn].zip us))
    (hbt : ∀ (kV doc pm : Value) (an : Option Addr) (cdv ct : Value) (us : List Value), us.length = [t.a].length → bindArgs (PySem.W.fnOf t.x t.x t.args t.body t.scope .none kV doc pm an cdv ct) ⟨us, []⟩ = pure ([t.a].zip us)) :
    ∀ base : Heap, ExcAll gs (runOf l w K mg gs ds base) := by
  intro base
  have facts := c.t.d
  refine And.intro (exc_all X G hx he (List.all_eq_true.mpr fun p hp => ?_) hok fun i hi => ?_) fun x val ws e => ?_
  · have q := List.all_eq_true.mp hg p hp
    obtain ⟨x, g⟩ := p
    cases g with
    | exc n f =>
      dsimp only at q ⊢
      rw [Bool.and_eq_true] at q
      cases f with
      | none => rfl
      | some f => exact q.2
    | _ => rfl
  · obtain ⟨fd, F⟩ := facts.defs (d := i.dd) (List.mem_append_right _ (List.mem_append_left _ (List.mem_map.mpr ⟨i, hi, rfl⟩)))
    have F : FunD K "__init__" i.qual i.args i.body i.scope [] [] (He.ma K (He.ga K i.x) "__init__") fd := F
    exact ⟨fd, F, F.bindsN (hbi i hi)⟩
  · have q := List.all_eq_true.mp hg _ (lookup_mem' e)
    dsimp only at q
    simp only [Bool.and_eq_true, decide_eq_true_eq] at q
    obtain ⟨rfl, rfl, rfl⟩ := q
    obtain ⟨fd, F⟩ := facts.defs (d := t.dd) (List.mem_append_right _ (List.mem_append_right _ (by simp)))
    have F : FunD K t.x t.x t.args t.body t.scope [] [] (He.ga K t.x) fd := F
    refine told_ok X G tok ht (fun n x f hn => ?_) F (F.bindsN hbt)
    have q := List.all_eq_true.mp hg _ (nameX_mem hn)
    dsimp only at q
    rw [Bool.and_eq_true] at q
    exact of_decide_eq_true q.1
theorem says_and {fa : List He.Fa} {fn : List He.DefD} {ts : List He.Tab} {tf : List He.Defn} {e1 e2 : PySem.W.Frag → Bool} {w : World} {h : Heap} {K : PySem.W.Frag} (c : He.SaysX fa fn ts tf (fun K => e1 K && e2 K) w h K) : He.SaysX fa fn ts tf e1 w h K ∧ e2 K = true := by
  have q := Bool.and_eq_true_iff.mp c.more
  exact ⟨⟨c.t, q.1, c.hd, c.out, c.empty⟩, q.2⟩
end Ev
namespace Ev.K22
open PySem PySem.Spec PyProof.Rows L2
theorem c0 : (cmp gs fis d_is_in).map (·.t) = some b_is_in := by kernel_rfl
theorem c1 : (cmp gs fis d_is_pair).map (·.t) = some b_is_pair := by kernel_rfl
theorem c2 : (cmp gs fis d_is_entry).map (·.t) = some b_is_entry := by kernel_rfl
theorem c3 : (cmp gs fis d_is_entries).map (·.t) = some b_is_entries := by kernel_rfl
theorem c4 : (cmp gs fis d_is_end).map (·.t) = some b_is_end := by kernel_rfl
theorem c5 : (cmp gs fis d_is_row_of_ends).map (·.t) = some b_is_row_of_ends := by kernel_rfl
theorem c6 : (cmp gs fis d_is_right).map (·.t) = some b_is_right := by kernel_rfl
theorem c7 : (cmp gs fis d_is_column).map (·.t) = some b_is_column := by kernel_rfl
theorem c8 : (cmp gs fis d_need_column).map (·.t) = some b_need_column := by kernel_rfl
theorem c9 : (cmp gs fis d_need_entries).map (·.t) = some b_need_entries := by kernel_rfl
theorem c10 : (cmp gs fis d_need_manner).map (·.t) = some b_need_manner := by kernel_rfl
theorem c11 : (cmp gs fis d_need_moving).map (·.t) = some b_need_moving := by kernel_rfl
theorem c12 : (cmp gs fis d_need_end).map (·.t) = some b_need_end := by kernel_rfl
theorem c13 : (cmp gs fis d_need_ends).map (·.t) = some b_need_ends := by kernel_rfl
theorem c14 : (cmp gs fis d_need_unlike).map (·.t) = some b_need_unlike := by kernel_rfl
theorem c15 : (cmp gs fis d_all_pieces).map (·.t) = some b_all_pieces := by kernel_rfl
theorem c16 : (cmp gs fis d_pieces).map (·.t) = some b_pieces := by kernel_rfl
theorem c17 : (cmp gs fis d_of_pieces).map (·.t) = some b_of_pieces := by kernel_rfl
theorem c18 : (cmp gs fis d_around).map (·.t) = some b_around := by kernel_rfl
theorem c19 : (cmp gs fis d_has_end).map (·.t) = some b_has_end := by kernel_rfl
theorem c20 : (cmp gs fis d_pushing_swaps).map (·.t) = some b_pushing_swaps := by kernel_rfl
theorem c21 : (cmp gs fis d_swapping_swaps).map (·.t) = some b_swapping_swaps := by kernel_rfl
theorem c22 : (cmp gs fis d_all_swaps).map (·.t) = some b_all_swaps := by kernel_rfl
theorem c23 : (cmp gs fis d_changed).map (·.t) = some b_changed := by kernel_rfl
theorem c24 : (cmp gs fis d_steady).map (·.t) = some b_steady := by kernel_rfl
theorem c25 : (cmp gs fis d_with_end).map (·.t) = some b_with_end := by kernel_rfl
theorem c26 : (cmp gs fis d_cut_at).map (·.t) = some b_cut_at := by kernel_rfl
theorem c27 : (cmp gs fis d_cut).map (·.t) = some b_cut := by kernel_rfl
theorem c28 : (cmp gs fis d_cut_row).map (·.t) = some b_cut_row := by kernel_rfl
theorem c29 : (cmp gs fis d_cut_all).map (·.t) = some b_cut_all := by kernel_rfl
theorem c30 : (cmp gs fis d_looks).map (·.t) = some b_looks := by kernel_rfl
theorem c31 : (cmp gs fis d_stretch).map (·.t) = some b_stretch := by kernel_rfl
theorem c32 : (cmp gs fis d_need_question).map (·.t) = some b_need_question := by kernel_rfl
theorem c33 : (cmp gs fis d_asked).map (·.t) = some b_asked := by kernel_rfl
theorem c34 : (cmp gs fis d_plain_answer).map (·.t) = some b_plain_answer := by kernel_rfl
theorem c35 : (cmp gs fis d_grown).map (·.t) = some b_grown := by kernel_rfl
theorem c36 : (cmp gs fis d_built).map (·.t) = some b_built := by kernel_rfl
theorem c37 : (cmp gs fis d_in_order).map (·.t) = some b_in_order := by kernel_rfl
theorem c38 : (cmp gs fis d_ahead).map (·.t) = some b_ahead := by kernel_rfl
theorem c39 : (cmp gs fis d_has_form).map (·.t) = some b_has_form := by kernel_rfl
theorem c40 : (cmp gs fis d_is_tree).map (·.t) = some b_is_tree := by kernel_rfl
theorem c41 : (cmp gs fis d_need_tree).map (·.t) = some b_need_tree := by kernel_rfl
theorem c42 : (cmp gs fis d_need_two).map (·.t) = some b_need_two := by kernel_rfl
theorem c43 : (cmp gs fis d_is_alike).map (·.t) = some b_is_alike := by kernel_rfl
theorem c44 : (cmp gs fis d_alike).map (·.t) = some b_alike := by kernel_rfl
theorem c45 : (cmp gs fis d_shows_parting).map (·.t) = some b_shows_parting := by kernel_rfl
theorem c46 : (cmp gs fis d_need_rows).map (·.t) = some b_need_rows := by kernel_rfl
theorem c47 : (cmp gs fis d_exchanged).map (·.t) = some b_exchanged := by kernel_rfl
theorem c48 : (cmp gs fis d_all_exchanges).map (·.t) = some b_all_exchanges := by kernel_rfl
theorem c49 : (cmp gs fis d_exchanges).map (·.t) = some b_exchanges := by kernel_rfl
theorem c50 : (cmp gs fis d_shows_exchanges).map (·.t) = some b_shows_exchanges := by kernel_rfl
theorem c51 : (cmp gs fis d_joined).map (·.t) = some b_joined := by kernel_rfl
theorem c52 : (cmp gs fis d_joined_tree).map (·.t) = some b_joined_tree := by kernel_rfl
theorem c53 : (cmp gs fis d_replays).map (·.t) = some b_replays := by kernel_rfl
theorem c54 : (cmp gs fis d_swaps_of).map (·.t) = some b_swaps_of := by kernel_rfl
theorem c55 : (cmp gs fis d_need_cut).map (·.t) = some b_need_cut := by kernel_rfl
theorem c56 : (cmp gs fis d_swaps).map (·.t) = some b_swaps := by kernel_rfl
theorem c57 : (cmp gs fis d_broken).map (·.t) = some b_broken := by kernel_rfl
theorem c58 : (cmp gs fis d_need_counts).map (·.t) = some b_need_counts := by kernel_rfl
theorem c59 : (cmp gs fis d_sum_looks).map (·.t) = some b_sum_looks := by kernel_rfl
theorem c60 : (cmp gs fis d_tree_looks).map (·.t) = some b_tree_looks := by kernel_rfl
theorem c61 : (cmp gs fis d_all_looks).map (·.t) = some b_all_looks := by kernel_rfl
theorem c62 : (cmp gs fis d_least_looks).map (·.t) = some b_least_looks := by kernel_rfl
theorem c63 : (cmp gs fis d_is_table).map (·.t) = some b_is_table := by kernel_rfl
theorem c64 : (cmp gs fis d_shows_below).map (·.t) = some b_shows_below := by kernel_rfl
theorem c65 : (cmp gs fis d_sizes).map (·.t) = some b_sizes := by kernel_rfl
theorem c66 : (cmp gs fis d_forest_count).map (·.t) = some b_forest_count := by kernel_rfl
theorem c67 : (cmp gs fis d_without).map (·.t) = some b_without := by kernel_rfl
theorem c68 : (cmp gs fis d_tops).map (·.t) = some b_tops := by kernel_rfl
theorem c69 : (cmp gs fis d_first_of).map (·.t) = some b_first_of := by kernel_rfl
theorem c70 : (cmp gs fis d_order_at).map (·.t) = some b_order_at := by kernel_rfl
theorem c71 : (cmp gs fis d_tree_count).map (·.t) = some b_tree_count := by kernel_rfl
theorem c72 : (cmp gs fis d_spread).map (·.t) = some b_spread := by kernel_rfl
theorem c73 : (cmp gs fis d_all_done).map (·.t) = some b_all_done := by kernel_rfl
theorem c74 : (cmp gs fis d_worked).map (·.t) = some b_worked := by kernel_rfl
theorem c75 : (cmp gs fis d_moves).map (·.t) = some b_moves := by kernel_rfl
theorem c76 : (cmp gs fis d_is_hand).map (·.t) = some b_is_hand := by kernel_rfl
theorem c77 : (cmp gs fis d_all_woven).map (·.t) = some b_all_woven := by kernel_rfl
theorem c78 : (cmp gs fis d_woven).map (·.t) = some b_woven := by kernel_rfl
theorem c79 : (cmp gs fis d_finished).map (·.t) = some b_finished := by kernel_rfl
theorem c80 : (cmp gs fis d__law_taken).map (·.t) = some b__law_taken := by kernel_rfl
theorem c81 : (cmp gs fis d__law_pick).map (·.t) = some b__law_pick := by kernel_rfl
theorem c82 : (cmp gs fis d_law).map (·.t) = some b_law := by kernel_rfl
theorem cd : CdL gs fis defs code := ⟨⟨b_is_in, c0, rfl⟩, ⟨b_is_pair, c1, rfl⟩, ⟨b_is_entry, c2, rfl⟩, ⟨b_is_entries, c3, rfl⟩, ⟨b_is_end, c4, rfl⟩, ⟨b_is_row_of_ends, c5, rfl⟩, ⟨b_is_right, c6, rfl⟩, ⟨b_is_column, c7, rfl⟩, ⟨b_need_column, c8, rfl⟩, ⟨b_need_entries, c9, rfl⟩, ⟨b_need_manner, c10, rfl⟩, ⟨b_need_moving, c11, rfl⟩, ⟨b_need_end, c12, rfl⟩, ⟨b_need_ends, c13, rfl⟩, ⟨b_need_unlike, c14, rfl⟩, ⟨b_all_pieces, c15, rfl⟩, ⟨b_pieces, c16, rfl⟩, ⟨b_of_pieces, c17, rfl⟩, ⟨b_around, c18, rfl⟩, ⟨b_has_end, c19, rfl⟩, ⟨b_pushing_swaps, c20, rfl⟩, ⟨b_swapping_swaps, c21, rfl⟩, ⟨b_all_swaps, c22, rfl⟩, ⟨b_changed, c23, rfl⟩, ⟨b_steady, c24, rfl⟩, ⟨b_with_end, c25, rfl⟩, ⟨b_cut_at, c26, rfl⟩, ⟨b_cut, c27, rfl⟩, ⟨b_cut_row, c28, rfl⟩, ⟨b_cut_all, c29, rfl⟩, ⟨b_looks, c30, rfl⟩, ⟨b_stretch, c31, rfl⟩, ⟨b_need_question, c32, rfl⟩, ⟨b_asked, c33, rfl⟩, ⟨b_plain_answer, c34, rfl⟩, ⟨b_grown, c35, rfl⟩, ⟨b_built, c36, rfl⟩, ⟨b_in_order, c37, rfl⟩, ⟨b_ahead, c38, rfl⟩, ⟨b_has_form, c39, rfl⟩, ⟨b_is_tree, c40, rfl⟩, ⟨b_need_tree, c41, rfl⟩, ⟨b_need_two, c42, rfl⟩, ⟨b_is_alike, c43, rfl⟩, ⟨b_alike, c44, rfl⟩, ⟨b_shows_parting, c45, rfl⟩, ⟨b_need_rows, c46, rfl⟩, ⟨b_exchanged, c47, rfl⟩, ⟨b_all_exchanges, c48, rfl⟩, ⟨b_exchanges, c49, rfl⟩, ⟨b_shows_exchanges, c50, rfl⟩, ⟨b_joined, c51, rfl⟩, ⟨b_joined_tree, c52, rfl⟩, ⟨b_replays, c53, rfl⟩, ⟨b_swaps_of, c54, rfl⟩, ⟨b_need_cut, c55, rfl⟩, ⟨b_swaps, c56, rfl⟩, ⟨b_broken, c57, rfl⟩, ⟨b_need_counts, c58, rfl⟩, ⟨b_sum_looks, c59, rfl⟩, ⟨b_tree_looks, c60, rfl⟩, ⟨b_all_looks, c61, rfl⟩, ⟨b_least_looks, c62, rfl⟩, ⟨b_is_table, c63, rfl⟩, ⟨b_shows_below, c64, rfl⟩, ⟨b_sizes, c65, rfl⟩, ⟨b_forest_count, c66, rfl⟩, ⟨b_without, c67, rfl⟩, ⟨b_tops, c68, rfl⟩, ⟨b_first_of, c69, rfl⟩, ⟨b_order_at, c70, rfl⟩, ⟨b_tree_count, c71, rfl⟩, ⟨b_spread, c72, rfl⟩, ⟨b_all_done, c73, rfl⟩, ⟨b_worked, c74, rfl⟩, ⟨b_moves, c75, rfl⟩, ⟨b_is_hand, c76, rfl⟩, ⟨b_all_woven, c77, rfl⟩, ⟨b_woven, c78, rfl⟩, ⟨b_finished, c79, rfl⟩, ⟨b__law_taken, c80, rfl⟩, ⟨b__law_pick, c81, rfl⟩, ⟨b_law, c82, rfl⟩, trivial⟩
theorem dcs : defs.all dC = true := by decide +kernel
theorem gsc : gsC gs defs = true := by decide +kernel
theorem bd0 (kV doc pm : Value) (an : Option Addr) (cdv ct : Value) (us : List Value) (hl : us.length = d_is_in.ps.length) : bindArgs (PySem.W.fnOf d_is_in.name d_is_in.name d_is_in.args d_is_in.body d_is_in.scope .none kV doc pm an cdv ct) ⟨us, []⟩ = pure (d_is_in.ps.zip us) := match us, hl with | [_, _, _], _ => rfl
theorem bd1 (kV doc pm : Value) (an : Option Addr) (cdv ct : Value) (us : List Value) (hl : us.length = d_is_pair.ps.length) : bindArgs (PySem.W.fnOf d_is_pair.name d_is_pair.name d_is_pair.args d_is_pair.body d_is_pair.scope .none kV doc pm an cdv ct) ⟨us, []⟩ = pure (d_is_pair.ps.zip us) := match us, hl with | [_], _ => rfl
theorem bd2 (kV doc pm : Value) (an : Option Addr) (cdv ct : Value) (us : List Value) (hl : us.length = d_is_entry.ps.length) : bindArgs (PySem.W.fnOf d_is_entry.name d_is_entry.name d_is_entry.args d_is_entry.body d_is_entry.scope .none kV doc pm an cdv ct) ⟨us, []⟩ = pure (d_is_entry.ps.zip us) := match us, hl with | [_], _ => rfl
theorem bd3 (kV doc pm : Value) (an : Option Addr) (cdv ct : Value) (us : List Value) (hl : us.length = d_is_entries.ps.length) : bindArgs (PySem.W.fnOf d_is_entries.name d_is_entries.name d_is_entries.args d_is_entries.body d_is_entries.scope .none kV doc pm an cdv ct) ⟨us, []⟩ = pure (d_is_entries.ps.zip us) := match us, hl with | [_], _ => rfl
theorem bd4 (kV doc pm : Value) (an : Option Addr) (cdv ct : Value) (us : List Value) (hl : us.length = d_is_end.ps.length) : bindArgs (PySem.W.fnOf d_is_end.name d_is_end.name d_is_end.args d_is_end.body d_is_end.scope .none kV doc pm an cdv ct) ⟨us, []⟩ = pure (d_is_end.ps.zip us) := match us, hl with | [_], _ => rfl
theorem bd5 (kV doc pm : Value) (an : Option Addr) (cdv ct : Value) (us : List Value) (hl : us.length = d_is_row_of_ends.ps.length) : bindArgs (PySem.W.fnOf d_is_row_of_ends.name d_is_row_of_ends.name d_is_row_of_ends.args d_is_row_of_ends.body d_is_row_of_ends.scope .none kV doc pm an cdv ct) ⟨us, []⟩ = pure (d_is_row_of_ends.ps.zip us) := match us, hl with | [_], _ => rfl
theorem bd6 (kV doc pm : Value) (an : Option Addr) (cdv ct : Value) (us : List Value) (hl : us.length = d_is_right.ps.length) : bindArgs (PySem.W.fnOf d_is_right.name d_is_right.name d_is_right.args d_is_right.body d_is_right.scope .none kV doc pm an cdv ct) ⟨us, []⟩ = pure (d_is_right.ps.zip us) := match us, hl with | [_, _, _], _ => rfl
theorem bd7 (kV doc pm : Value) (an : Option Addr) (cdv ct : Value) (us : List Value) (hl : us.length = d_is_column.ps.length) : bindArgs (PySem.W.fnOf d_is_column.name d_is_column.name d_is_column.args d_is_column.body d_is_column.scope .none kV doc pm an cdv ct) ⟨us, []⟩ = pure (d_is_column.ps.zip us) := match us, hl with | [_], _ => rfl
theorem bd8 (kV doc pm : Value) (an : Option Addr) (cdv ct : Value) (us : List Value) (hl : us.length = d_need_column.ps.length) : bindArgs (PySem.W.fnOf d_need_column.name d_need_column.name d_need_column.args d_need_column.body d_need_column.scope .none kV doc pm an cdv ct) ⟨us, []⟩ = pure (d_need_column.ps.zip us) := match us, hl with | [_], _ => rfl
theorem bd9 (kV doc pm : Value) (an : Option Addr) (cdv ct : Value) (us : List Value) (hl : us.length = d_need_entries.ps.length) : bindArgs (PySem.W.fnOf d_need_entries.name d_need_entries.name d_need_entries.args d_need_entries.body d_need_entries.scope .none kV doc pm an cdv ct) ⟨us, []⟩ = pure (d_need_entries.ps.zip us) := match us, hl with | [_], _ => rfl
theorem bd10 (kV doc pm : Value) (an : Option Addr) (cdv ct : Value) (us : List Value) (hl : us.length = d_need_manner.ps.length) : bindArgs (PySem.W.fnOf d_need_manner.name d_need_manner.name d_need_manner.args d_need_manner.body d_need_manner.scope .none kV doc pm an cdv ct) ⟨us, []⟩ = pure (d_need_manner.ps.zip us) := match us, hl with | [_], _ => rfl
theorem bd11 (kV doc pm : Value) (an : Option Addr) (cdv ct : Value) (us : List Value) (hl : us.length = d_need_moving.ps.length) : bindArgs (PySem.W.fnOf d_need_moving.name d_need_moving.name d_need_moving.args d_need_moving.body d_need_moving.scope .none kV doc pm an cdv ct) ⟨us, []⟩ = pure (d_need_moving.ps.zip us) := match us, hl with | [_], _ => rfl
theorem bd12 (kV doc pm : Value) (an : Option Addr) (cdv ct : Value) (us : List Value) (hl : us.length = d_need_end.ps.length) : bindArgs (PySem.W.fnOf d_need_end.name d_need_end.name d_need_end.args d_need_end.body d_need_end.scope .none kV doc pm an cdv ct) ⟨us, []⟩ = pure (d_need_end.ps.zip us) := match us, hl with | [_, _], _ => rfl
theorem bd13 (kV doc pm : Value) (an : Option Addr) (cdv ct : Value) (us : List Value) (hl : us.length = d_need_ends.ps.length) : bindArgs (PySem.W.fnOf d_need_ends.name d_need_ends.name d_need_ends.args d_need_ends.body d_need_ends.scope .none kV doc pm an cdv ct) ⟨us, []⟩ = pure (d_need_ends.ps.zip us) := match us, hl with | [_], _ => rfl
theorem bd14 (kV doc pm : Value) (an : Option Addr) (cdv ct : Value) (us : List Value) (hl : us.length = d_need_unlike.ps.length) : bindArgs (PySem.W.fnOf d_need_unlike.name d_need_unlike.name d_need_unlike.args d_need_unlike.body d_need_unlike.scope .none kV doc pm an cdv ct) ⟨us, []⟩ = pure (d_need_unlike.ps.zip us) := match us, hl with | [_], _ => rfl
theorem bd15 (kV doc pm : Value) (an : Option Addr) (cdv ct : Value) (us : List Value) (hl : us.length = d_all_pieces.ps.length) : bindArgs (PySem.W.fnOf d_all_pieces.name d_all_pieces.name d_all_pieces.args d_all_pieces.body d_all_pieces.scope .none kV doc pm an cdv ct) ⟨us, []⟩ = pure (d_all_pieces.ps.zip us) := match us, hl with | [_], _ => rfl
theorem bd16 (kV doc pm : Value) (an : Option Addr) (cdv ct : Value) (us : List Value) (hl : us.length = d_pieces.ps.length) : bindArgs (PySem.W.fnOf d_pieces.name d_pieces.name d_pieces.args d_pieces.body d_pieces.scope .none kV doc pm an cdv ct) ⟨us, []⟩ = pure (d_pieces.ps.zip us) := match us, hl with | [_], _ => rfl
theorem bd17 (kV doc pm : Value) (an : Option Addr) (cdv ct : Value) (us : List Value) (hl : us.length = d_of_pieces.ps.length) : bindArgs (PySem.W.fnOf d_of_pieces.name d_of_pieces.name d_of_pieces.args d_of_pieces.body d_of_pieces.scope .none kV doc pm an cdv ct) ⟨us, []⟩ = pure (d_of_pieces.ps.zip us) := match us, hl with | [_, _], _ => rfl
theorem bd18 (kV doc pm : Value) (an : Option Addr) (cdv ct : Value) (us : List Value) (hl : us.length = d_around.ps.length) : bindArgs (PySem.W.fnOf d_around.name d_around.name d_around.args d_around.body d_around.scope .none kV doc pm an cdv ct) ⟨us, []⟩ = pure (d_around.ps.zip us) := match us, hl with | [_, _], _ => rfl
theorem bd19 (kV doc pm : Value) (an : Option Addr) (cdv ct : Value) (us : List Value) (hl : us.length = d_has_end.ps.length) : bindArgs (PySem.W.fnOf d_has_end.name d_has_end.name d_has_end.args d_has_end.body d_has_end.scope .none kV doc pm an cdv ct) ⟨us, []⟩ = pure (d_has_end.ps.zip us) := match us, hl with | [_, _], _ => rfl
theorem bd20 (kV doc pm : Value) (an : Option Addr) (cdv ct : Value) (us : List Value) (hl : us.length = d_pushing_swaps.ps.length) : bindArgs (PySem.W.fnOf d_pushing_swaps.name d_pushing_swaps.name d_pushing_swaps.args d_pushing_swaps.body d_pushing_swaps.scope .none kV doc pm an cdv ct) ⟨us, []⟩ = pure (d_pushing_swaps.ps.zip us) := match us, hl with | [_, _], _ => rfl
theorem bd21 (kV doc pm : Value) (an : Option Addr) (cdv ct : Value) (us : List Value) (hl : us.length = d_swapping_swaps.ps.length) : bindArgs (PySem.W.fnOf d_swapping_swaps.name d_swapping_swaps.name d_swapping_swaps.args d_swapping_swaps.body d_swapping_swaps.scope .none kV doc pm an cdv ct) ⟨us, []⟩ = pure (d_swapping_swaps.ps.zip us) := match us, hl with | [_, _], _ => rfl
theorem bd22 (kV doc pm : Value) (an : Option Addr) (cdv ct : Value) (us : List Value) (hl : us.length = d_all_swaps.ps.length) : bindArgs (PySem.W.fnOf d_all_swaps.name d_all_swaps.name d_all_swaps.args d_all_swaps.body d_all_swaps.scope .none kV doc pm an cdv ct) ⟨us, []⟩ = pure (d_all_swaps.ps.zip us) := match us, hl with | [_, _, _], _ => rfl
theorem bd23 (kV doc pm : Value) (an : Option Addr) (cdv ct : Value) (us : List Value) (hl : us.length = d_changed.ps.length) : bindArgs (PySem.W.fnOf d_changed.name d_changed.name d_changed.args d_changed.body d_changed.scope .none kV doc pm an cdv ct) ⟨us, []⟩ = pure (d_changed.ps.zip us) := match us, hl with | [_, _], _ => rfl
theorem bd24 (kV doc pm : Value) (an : Option Addr) (cdv ct : Value) (us : List Value) (hl : us.length = d_steady.ps.length) : bindArgs (PySem.W.fnOf d_steady.name d_steady.name d_steady.args d_steady.body d_steady.scope .none kV doc pm an cdv ct) ⟨us, []⟩ = pure (d_steady.ps.zip us) := match us, hl with | [_, _], _ => rfl
theorem bd25 (kV doc pm : Value) (an : Option Addr) (cdv ct : Value) (us : List Value) (hl : us.length = d_with_end.ps.length) : bindArgs (PySem.W.fnOf d_with_end.name d_with_end.name d_with_end.args d_with_end.body d_with_end.scope .none kV doc pm an cdv ct) ⟨us, []⟩ = pure (d_with_end.ps.zip us) := match us, hl with | [_, _, _], _ => rfl
theorem bd26 (kV doc pm : Value) (an : Option Addr) (cdv ct : Value) (us : List Value) (hl : us.length = d_cut_at.ps.length) : bindArgs (PySem.W.fnOf d_cut_at.name d_cut_at.name d_cut_at.args d_cut_at.body d_cut_at.scope .none kV doc pm an cdv ct) ⟨us, []⟩ = pure (d_cut_at.ps.zip us) := match us, hl with | [_, _, _], _ => rfl
theorem bd27 (kV doc pm : Value) (an : Option Addr) (cdv ct : Value) (us : List Value) (hl : us.length = d_cut.ps.length) : bindArgs (PySem.W.fnOf d_cut.name d_cut.name d_cut.args d_cut.body d_cut.scope .none kV doc pm an cdv ct) ⟨us, []⟩ = pure (d_cut.ps.zip us) := match us, hl with | [_, _, _], _ => rfl
theorem bd28 (kV doc pm : Value) (an : Option Addr) (cdv ct : Value) (us : List Value) (hl : us.length = d_cut_row.ps.length) : bindArgs (PySem.W.fnOf d_cut_row.name d_cut_row.name d_cut_row.args d_cut_row.body d_cut_row.scope .none kV doc pm an cdv ct) ⟨us, []⟩ = pure (d_cut_row.ps.zip us) := match us, hl with | [_, _, _], _ => rfl
theorem bd29 (kV doc pm : Value) (an : Option Addr) (cdv ct : Value) (us : List Value) (hl : us.length = d_cut_all.ps.length) : bindArgs (PySem.W.fnOf d_cut_all.name d_cut_all.name d_cut_all.args d_cut_all.body d_cut_all.scope .none kV doc pm an cdv ct) ⟨us, []⟩ = pure (d_cut_all.ps.zip us) := match us, hl with | [_, _, _], _ => rfl
theorem bd30 (kV doc pm : Value) (an : Option Addr) (cdv ct : Value) (us : List Value) (hl : us.length = d_looks.ps.length) : bindArgs (PySem.W.fnOf d_looks.name d_looks.name d_looks.args d_looks.body d_looks.scope .none kV doc pm an cdv ct) ⟨us, []⟩ = pure (d_looks.ps.zip us) := match us, hl with | [_, _], _ => rfl
theorem bd31 (kV doc pm : Value) (an : Option Addr) (cdv ct : Value) (us : List Value) (hl : us.length = d_stretch.ps.length) : bindArgs (PySem.W.fnOf d_stretch.name d_stretch.name d_stretch.args d_stretch.body d_stretch.scope .none kV doc pm an cdv ct) ⟨us, []⟩ = pure (d_stretch.ps.zip us) := match us, hl with | [_, _, _], _ => rfl
theorem bd32 (kV doc pm : Value) (an : Option Addr) (cdv ct : Value) (us : List Value) (hl : us.length = d_need_question.ps.length) : bindArgs (PySem.W.fnOf d_need_question.name d_need_question.name d_need_question.args d_need_question.body d_need_question.scope .none kV doc pm an cdv ct) ⟨us, []⟩ = pure (d_need_question.ps.zip us) := match us, hl with | [_, _], _ => rfl
theorem bd33 (kV doc pm : Value) (an : Option Addr) (cdv ct : Value) (us : List Value) (hl : us.length = d_asked.ps.length) : bindArgs (PySem.W.fnOf d_asked.name d_asked.name d_asked.args d_asked.body d_asked.scope .none kV doc pm an cdv ct) ⟨us, []⟩ = pure (d_asked.ps.zip us) := match us, hl with | [_, _, _, _], _ => rfl
theorem bd34 (kV doc pm : Value) (an : Option Addr) (cdv ct : Value) (us : List Value) (hl : us.length = d_plain_answer.ps.length) : bindArgs (PySem.W.fnOf d_plain_answer.name d_plain_answer.name d_plain_answer.args d_plain_answer.body d_plain_answer.scope .none kV doc pm an cdv ct) ⟨us, []⟩ = pure (d_plain_answer.ps.zip us) := match us, hl with | [_, _, _], _ => rfl
theorem bd35 (kV doc pm : Value) (an : Option Addr) (cdv ct : Value) (us : List Value) (hl : us.length = d_grown.ps.length) : bindArgs (PySem.W.fnOf d_grown.name d_grown.name d_grown.args d_grown.body d_grown.scope .none kV doc pm an cdv ct) ⟨us, []⟩ = pure (d_grown.ps.zip us) := match us, hl with | [_, _], _ => rfl
theorem bd36 (kV doc pm : Value) (an : Option Addr) (cdv ct : Value) (us : List Value) (hl : us.length = d_built.ps.length) : bindArgs (PySem.W.fnOf d_built.name d_built.name d_built.args d_built.body d_built.scope .none kV doc pm an cdv ct) ⟨us, []⟩ = pure (d_built.ps.zip us) := match us, hl with | [_], _ => rfl
theorem bd37 (kV doc pm : Value) (an : Option Addr) (cdv ct : Value) (us : List Value) (hl : us.length = d_in_order.ps.length) : bindArgs (PySem.W.fnOf d_in_order.name d_in_order.name d_in_order.args d_in_order.body d_in_order.scope .none kV doc pm an cdv ct) ⟨us, []⟩ = pure (d_in_order.ps.zip us) := match us, hl with | [_], _ => rfl
theorem bd38 (kV doc pm : Value) (an : Option Addr) (cdv ct : Value) (us : List Value) (hl : us.length = d_ahead.ps.length) : bindArgs (PySem.W.fnOf d_ahead.name d_ahead.name d_ahead.args d_ahead.body d_ahead.scope .none kV doc pm an cdv ct) ⟨us, []⟩ = pure (d_ahead.ps.zip us) := match us, hl with | [_], _ => rfl
theorem bd39 (kV doc pm : Value) (an : Option Addr) (cdv ct : Value) (us : List Value) (hl : us.length = d_has_form.ps.length) : bindArgs (PySem.W.fnOf d_has_form.name d_has_form.name d_has_form.args d_has_form.body d_has_form.scope .none kV doc pm an cdv ct) ⟨us, []⟩ = pure (d_has_form.ps.zip us) := match us, hl with | [_, _], _ => rfl
theorem bd40 (kV doc pm : Value) (an : Option Addr) (cdv ct : Value) (us : List Value) (hl : us.length = d_is_tree.ps.length) : bindArgs (PySem.W.fnOf d_is_tree.name d_is_tree.name d_is_tree.args d_is_tree.body d_is_tree.scope .none kV doc pm an cdv ct) ⟨us, []⟩ = pure (d_is_tree.ps.zip us) := match us, hl with | [_], _ => rfl
theorem bd41 (kV doc pm : Value) (an : Option Addr) (cdv ct : Value) (us : List Value) (hl : us.length = d_need_tree.ps.length) : bindArgs (PySem.W.fnOf d_need_tree.name d_need_tree.name d_need_tree.args d_need_tree.body d_need_tree.scope .none kV doc pm an cdv ct) ⟨us, []⟩ = pure (d_need_tree.ps.zip us) := match us, hl with | [_], _ => rfl
theorem bd42 (kV doc pm : Value) (an : Option Addr) (cdv ct : Value) (us : List Value) (hl : us.length = d_need_two.ps.length) : bindArgs (PySem.W.fnOf d_need_two.name d_need_two.name d_need_two.args d_need_two.body d_need_two.scope .none kV doc pm an cdv ct) ⟨us, []⟩ = pure (d_need_two.ps.zip us) := match us, hl with | [_, _, _], _ => rfl
theorem bd43 (kV doc pm : Value) (an : Option Addr) (cdv ct : Value) (us : List Value) (hl : us.length = d_is_alike.ps.length) : bindArgs (PySem.W.fnOf d_is_alike.name d_is_alike.name d_is_alike.args d_is_alike.body d_is_alike.scope .none kV doc pm an cdv ct) ⟨us, []⟩ = pure (d_is_alike.ps.zip us) := match us, hl with | [_, _, _], _ => rfl
theorem bd44 (kV doc pm : Value) (an : Option Addr) (cdv ct : Value) (us : List Value) (hl : us.length = d_alike.ps.length) : bindArgs (PySem.W.fnOf d_alike.name d_alike.name d_alike.args d_alike.body d_alike.scope .none kV doc pm an cdv ct) ⟨us, []⟩ = pure (d_alike.ps.zip us) := match us, hl with | [_, _, _], _ => rfl
theorem bd45 (kV doc pm : Value) (an : Option Addr) (cdv ct : Value) (us : List Value) (hl : us.length = d_shows_parting.ps.length) : bindArgs (PySem.W.fnOf d_shows_parting.name d_shows_parting.name d_shows_parting.args d_shows_parting.body d_shows_parting.scope .none kV doc pm an cdv ct) ⟨us, []⟩ = pure (d_shows_parting.ps.zip us) := match us, hl with | [_, _, _, _], _ => rfl
theorem bd46 (kV doc pm : Value) (an : Option Addr) (cdv ct : Value) (us : List Value) (hl : us.length = d_need_rows.ps.length) : bindArgs (PySem.W.fnOf d_need_rows.name d_need_rows.name d_need_rows.args d_need_rows.body d_need_rows.scope .none kV doc pm an cdv ct) ⟨us, []⟩ = pure (d_need_rows.ps.zip us) := match us, hl with | [_, _], _ => rfl
theorem bd47 (kV doc pm : Value) (an : Option Addr) (cdv ct : Value) (us : List Value) (hl : us.length = d_exchanged.ps.length) : bindArgs (PySem.W.fnOf d_exchanged.name d_exchanged.name d_exchanged.args d_exchanged.body d_exchanged.scope .none kV doc pm an cdv ct) ⟨us, []⟩ = pure (d_exchanged.ps.zip us) := match us, hl with | [_, _], _ => rfl
theorem bd48 (kV doc pm : Value) (an : Option Addr) (cdv ct : Value) (us : List Value) (hl : us.length = d_all_exchanges.ps.length) : bindArgs (PySem.W.fnOf d_all_exchanges.name d_all_exchanges.name d_all_exchanges.args d_all_exchanges.body d_all_exchanges.scope .none kV doc pm an cdv ct) ⟨us, []⟩ = pure (d_all_exchanges.ps.zip us) := match us, hl with | [_, _], _ => rfl
theorem bd49 (kV doc pm : Value) (an : Option Addr) (cdv ct : Value) (us : List Value) (hl : us.length = d_exchanges.ps.length) : bindArgs (PySem.W.fnOf d_exchanges.name d_exchanges.name d_exchanges.args d_exchanges.body d_exchanges.scope .none kV doc pm an cdv ct) ⟨us, []⟩ = pure (d_exchanges.ps.zip us) := match us, hl with | [_, _], _ => rfl
theorem bd50 (kV doc pm : Value) (an : Option Addr) (cdv ct : Value) (us : List Value) (hl : us.length = d_shows_exchanges.ps.length) : bindArgs (PySem.W.fnOf d_shows_exchanges.name d_shows_exchanges.name d_shows_exchanges.args d_shows_exchanges.body d_shows_exchanges.scope .none kV doc pm an cdv ct) ⟨us, []⟩ = pure (d_shows_exchanges.ps.zip us) := match us, hl with | [_, _, _], _ => rfl
theorem bd51 (kV doc pm : Value) (an : Option Addr) (cdv ct : Value) (us : List Value) (hl : us.length = d_joined.ps.length) : bindArgs (PySem.W.fnOf d_joined.name d_joined.name d_joined.args d_joined.body d_joined.scope .none kV doc pm an cdv ct) ⟨us, []⟩ = pure (d_joined.ps.zip us) := match us, hl with | [_, _], _ => rfl
theorem bd52 (kV doc pm : Value) (an : Option Addr) (cdv ct : Value) (us : List Value) (hl : us.length = d_joined_tree.ps.length) : bindArgs (PySem.W.fnOf d_joined_tree.name d_joined_tree.name d_joined_tree.args d_joined_tree.body d_joined_tree.scope .none kV doc pm an cdv ct) ⟨us, []⟩ = pure (d_joined_tree.ps.zip us) := match us, hl with | [_, _], _ => rfl
theorem bd53 (kV doc pm : Value) (an : Option Addr) (cdv ct : Value) (us : List Value) (hl : us.length = d_replays.ps.length) : bindArgs (PySem.W.fnOf d_replays.name d_replays.name d_replays.args d_replays.body d_replays.scope .none kV doc pm an cdv ct) ⟨us, []⟩ = pure (d_replays.ps.zip us) := match us, hl with | [_, _, _], _ => rfl
theorem bd54 (kV doc pm : Value) (an : Option Addr) (cdv ct : Value) (us : List Value) (hl : us.length = d_swaps_of.ps.length) : bindArgs (PySem.W.fnOf d_swaps_of.name d_swaps_of.name d_swaps_of.args d_swaps_of.body d_swaps_of.scope .none kV doc pm an cdv ct) ⟨us, []⟩ = pure (d_swaps_of.ps.zip us) := match us, hl with | [_, _, _], _ => rfl
theorem bd55 (kV doc pm : Value) (an : Option Addr) (cdv ct : Value) (us : List Value) (hl : us.length = d_need_cut.ps.length) : bindArgs (PySem.W.fnOf d_need_cut.name d_need_cut.name d_need_cut.args d_need_cut.body d_need_cut.scope .none kV doc pm an cdv ct) ⟨us, []⟩ = pure (d_need_cut.ps.zip us) := match us, hl with | [_, _, _], _ => rfl
theorem bd56 (kV doc pm : Value) (an : Option Addr) (cdv ct : Value) (us : List Value) (hl : us.length = d_swaps.ps.length) : bindArgs (PySem.W.fnOf d_swaps.name d_swaps.name d_swaps.args d_swaps.body d_swaps.scope .none kV doc pm an cdv ct) ⟨us, []⟩ = pure (d_swaps.ps.zip us) := match us, hl with | [_, _, _], _ => rfl
theorem bd57 (kV doc pm : Value) (an : Option Addr) (cdv ct : Value) (us : List Value) (hl : us.length = d_broken.ps.length) : bindArgs (PySem.W.fnOf d_broken.name d_broken.name d_broken.args d_broken.body d_broken.scope .none kV doc pm an cdv ct) ⟨us, []⟩ = pure (d_broken.ps.zip us) := match us, hl with | [_, _, _, _], _ => rfl
theorem bd58 (kV doc pm : Value) (an : Option Addr) (cdv ct : Value) (us : List Value) (hl : us.length = d_need_counts.ps.length) : bindArgs (PySem.W.fnOf d_need_counts.name d_need_counts.name d_need_counts.args d_need_counts.body d_need_counts.scope .none kV doc pm an cdv ct) ⟨us, []⟩ = pure (d_need_counts.ps.zip us) := match us, hl with | [_], _ => rfl
theorem bd59 (kV doc pm : Value) (an : Option Addr) (cdv ct : Value) (us : List Value) (hl : us.length = d_sum_looks.ps.length) : bindArgs (PySem.W.fnOf d_sum_looks.name d_sum_looks.name d_sum_looks.args d_sum_looks.body d_sum_looks.scope .none kV doc pm an cdv ct) ⟨us, []⟩ = pure (d_sum_looks.ps.zip us) := match us, hl with | [_, _], _ => rfl
theorem bd60 (kV doc pm : Value) (an : Option Addr) (cdv ct : Value) (us : List Value) (hl : us.length = d_tree_looks.ps.length) : bindArgs (PySem.W.fnOf d_tree_looks.name d_tree_looks.name d_tree_looks.args d_tree_looks.body d_tree_looks.scope .none kV doc pm an cdv ct) ⟨us, []⟩ = pure (d_tree_looks.ps.zip us) := match us, hl with | [_, _], _ => rfl
theorem bd61 (kV doc pm : Value) (an : Option Addr) (cdv ct : Value) (us : List Value) (hl : us.length = d_all_looks.ps.length) : bindArgs (PySem.W.fnOf d_all_looks.name d_all_looks.name d_all_looks.args d_all_looks.body d_all_looks.scope .none kV doc pm an cdv ct) ⟨us, []⟩ = pure (d_all_looks.ps.zip us) := match us, hl with | [_, _], _ => rfl
theorem bd62 (kV doc pm : Value) (an : Option Addr) (cdv ct : Value) (us : List Value) (hl : us.length = d_least_looks.ps.length) : bindArgs (PySem.W.fnOf d_least_looks.name d_least_looks.name d_least_looks.args d_least_looks.body d_least_looks.scope .none kV doc pm an cdv ct) ⟨us, []⟩ = pure (d_least_looks.ps.zip us) := match us, hl with | [_], _ => rfl
theorem bd63 (kV doc pm : Value) (an : Option Addr) (cdv ct : Value) (us : List Value) (hl : us.length = d_is_table.ps.length) : bindArgs (PySem.W.fnOf d_is_table.name d_is_table.name d_is_table.args d_is_table.body d_is_table.scope .none kV doc pm an cdv ct) ⟨us, []⟩ = pure (d_is_table.ps.zip us) := match us, hl with | [_, _], _ => rfl
theorem bd64 (kV doc pm : Value) (an : Option Addr) (cdv ct : Value) (us : List Value) (hl : us.length = d_shows_below.ps.length) : bindArgs (PySem.W.fnOf d_shows_below.name d_shows_below.name d_shows_below.args d_shows_below.body d_shows_below.scope .none kV doc pm an cdv ct) ⟨us, []⟩ = pure (d_shows_below.ps.zip us) := match us, hl with | [_, _], _ => rfl
theorem bd65 (kV doc pm : Value) (an : Option Addr) (cdv ct : Value) (us : List Value) (hl : us.length = d_sizes.ps.length) : bindArgs (PySem.W.fnOf d_sizes.name d_sizes.name d_sizes.args d_sizes.body d_sizes.scope .none kV doc pm an cdv ct) ⟨us, []⟩ = pure (d_sizes.ps.zip us) := match us, hl with | [_], _ => rfl
theorem bd66 (kV doc pm : Value) (an : Option Addr) (cdv ct : Value) (us : List Value) (hl : us.length = d_forest_count.ps.length) : bindArgs (PySem.W.fnOf d_forest_count.name d_forest_count.name d_forest_count.args d_forest_count.body d_forest_count.scope .none kV doc pm an cdv ct) ⟨us, []⟩ = pure (d_forest_count.ps.zip us) := match us, hl with | [_], _ => rfl
theorem bd67 (kV doc pm : Value) (an : Option Addr) (cdv ct : Value) (us : List Value) (hl : us.length = d_without.ps.length) : bindArgs (PySem.W.fnOf d_without.name d_without.name d_without.args d_without.body d_without.scope .none kV doc pm an cdv ct) ⟨us, []⟩ = pure (d_without.ps.zip us) := match us, hl with | [_, _], _ => rfl
theorem bd68 (kV doc pm : Value) (an : Option Addr) (cdv ct : Value) (us : List Value) (hl : us.length = d_tops.ps.length) : bindArgs (PySem.W.fnOf d_tops.name d_tops.name d_tops.args d_tops.body d_tops.scope .none kV doc pm an cdv ct) ⟨us, []⟩ = pure (d_tops.ps.zip us) := match us, hl with | [_], _ => rfl
theorem bd69 (kV doc pm : Value) (an : Option Addr) (cdv ct : Value) (us : List Value) (hl : us.length = d_first_of.ps.length) : bindArgs (PySem.W.fnOf d_first_of.name d_first_of.name d_first_of.args d_first_of.body d_first_of.scope .none kV doc pm an cdv ct) ⟨us, []⟩ = pure (d_first_of.ps.zip us) := match us, hl with | [_], _ => rfl
theorem bd70 (kV doc pm : Value) (an : Option Addr) (cdv ct : Value) (us : List Value) (hl : us.length = d_order_at.ps.length) : bindArgs (PySem.W.fnOf d_order_at.name d_order_at.name d_order_at.args d_order_at.body d_order_at.scope .none kV doc pm an cdv ct) ⟨us, []⟩ = pure (d_order_at.ps.zip us) := match us, hl with | [_, _], _ => rfl
theorem bd71 (kV doc pm : Value) (an : Option Addr) (cdv ct : Value) (us : List Value) (hl : us.length = d_tree_count.ps.length) : bindArgs (PySem.W.fnOf d_tree_count.name d_tree_count.name d_tree_count.args d_tree_count.body d_tree_count.scope .none kV doc pm an cdv ct) ⟨us, []⟩ = pure (d_tree_count.ps.zip us) := match us, hl with | [_, _], _ => rfl
theorem bd72 (kV doc pm : Value) (an : Option Addr) (cdv ct : Value) (us : List Value) (hl : us.length = d_spread.ps.length) : bindArgs (PySem.W.fnOf d_spread.name d_spread.name d_spread.args d_spread.body d_spread.scope .none kV doc pm an cdv ct) ⟨us, []⟩ = pure (d_spread.ps.zip us) := match us, hl with | [_, _, _, _], _ => rfl
theorem bd73 (kV doc pm : Value) (an : Option Addr) (cdv ct : Value) (us : List Value) (hl : us.length = d_all_done.ps.length) : bindArgs (PySem.W.fnOf d_all_done.name d_all_done.name d_all_done.args d_all_done.body d_all_done.scope .none kV doc pm an cdv ct) ⟨us, []⟩ = pure (d_all_done.ps.zip us) := match us, hl with | [_, _, _], _ => rfl
theorem bd74 (kV doc pm : Value) (an : Option Addr) (cdv ct : Value) (us : List Value) (hl : us.length = d_worked.ps.length) : bindArgs (PySem.W.fnOf d_worked.name d_worked.name d_worked.args d_worked.body d_worked.scope .none kV doc pm an cdv ct) ⟨us, []⟩ = pure (d_worked.ps.zip us) := match us, hl with | [_, _, _], _ => rfl
theorem bd75 (kV doc pm : Value) (an : Option Addr) (cdv ct : Value) (us : List Value) (hl : us.length = d_moves.ps.length) : bindArgs (PySem.W.fnOf d_moves.name d_moves.name d_moves.args d_moves.body d_moves.scope .none kV doc pm an cdv ct) ⟨us, []⟩ = pure (d_moves.ps.zip us) := match us, hl with | [_, _, _], _ => rfl
theorem bd76 (kV doc pm : Value) (an : Option Addr) (cdv ct : Value) (us : List Value) (hl : us.length = d_is_hand.ps.length) : bindArgs (PySem.W.fnOf d_is_hand.name d_is_hand.name d_is_hand.args d_is_hand.body d_is_hand.scope .none kV doc pm an cdv ct) ⟨us, []⟩ = pure (d_is_hand.ps.zip us) := match us, hl with | [_], _ => rfl
theorem bd77 (kV doc pm : Value) (an : Option Addr) (cdv ct : Value) (us : List Value) (hl : us.length = d_all_woven.ps.length) : bindArgs (PySem.W.fnOf d_all_woven.name d_all_woven.name d_all_woven.args d_all_woven.body d_all_woven.scope .none kV doc pm an cdv ct) ⟨us, []⟩ = pure (d_all_woven.ps.zip us) := match us, hl with | [_, _, _, _], _ => rfl
theorem bd78 (kV doc pm : Value) (an : Option Addr) (cdv ct : Value) (us : List Value) (hl : us.length = d_woven.ps.length) : bindArgs (PySem.W.fnOf d_woven.name d_woven.name d_woven.args d_woven.body d_woven.scope .none kV doc pm an cdv ct) ⟨us, []⟩ = pure (d_woven.ps.zip us) := match us, hl with | [_, _, _, _], _ => rfl
theorem bd79 (kV doc pm : Value) (an : Option Addr) (cdv ct : Value) (us : List Value) (hl : us.length = d_finished.ps.length) : bindArgs (PySem.W.fnOf d_finished.name d_finished.name d_finished.args d_finished.body d_finished.scope .none kV doc pm an cdv ct) ⟨us, []⟩ = pure (d_finished.ps.zip us) := match us, hl with | [_, _, _, _], _ => rfl
theorem bd80 (kV doc pm : Value) (an : Option Addr) (cdv ct : Value) (us : List Value) (hl : us.length = d__law_taken.ps.length) : bindArgs (PySem.W.fnOf d__law_taken.name d__law_taken.name d__law_taken.args d__law_taken.body d__law_taken.scope .none kV doc pm an cdv ct) ⟨us, []⟩ = pure (d__law_taken.ps.zip us) := match us, hl with | [_, _], _ => rfl
theorem bd81 (kV doc pm : Value) (an : Option Addr) (cdv ct : Value) (us : List Value) (hl : us.length = d__law_pick.ps.length) : bindArgs (PySem.W.fnOf d__law_pick.name d__law_pick.name d__law_pick.args d__law_pick.body d__law_pick.scope .none kV doc pm an cdv ct) ⟨us, []⟩ = pure (d__law_pick.ps.zip us) := match us, hl with | [_, _], _ => rfl
theorem bd82 (kV doc pm : Value) (an : Option Addr) (cdv ct : Value) (us : List Value) (hl : us.length = d_law.ps.length) : bindArgs (PySem.W.fnOf d_law.name d_law.name d_law.args d_law.body d_law.scope .none kV doc pm an cdv ct) ⟨us, []⟩ = pure (d_law.ps.zip us) := match us, hl with | [_], _ => rfl
theorem bds : ∀ (n : Nat) (d : DefI), defs[n]? = some d → ∀ (kV doc pm : Value) (an : Option Addr) (cdv ct : Value) (us : List Value), us.length = d.ps.length → bindArgs (PySem.W.fnOf d.name d.name d.args d.body d.scope .none kV doc pm an cdv ct) ⟨us, []⟩ = pure (d.ps.zip us)
  | 0, _, e => by cases e; exact bd0
  | 1, _, e => by cases e; exact bd1
  | 2, _, e => by cases e; exact bd2
  | 3, _, e => by cases e; exact bd3
  | 4, _, e => by cases e; exact bd4
  | 5, _, e => by cases e; exact bd5
  | 6, _, e => by cases e; exact bd6
  | 7, _, e => by cases e; exact bd7
  | 8, _, e => by cases e; exact bd8
  | 9, _, e => by cases e; exact bd9
  | 10, _, e => by cases e; exact bd10
  | 11, _, e => by cases e; exact bd11
  | 12, _, e => by cases e; exact bd12
  | 13, _, e => by cases e; exact bd13
  | 14, _, e => by cases e; exact bd14
  | 15, _, e => by cases e; exact bd15
  | 16, _, e => by cases e; exact bd16
  | 17, _, e => by cases e; exact bd17
  | 18, _, e => by cases e; exact bd18
  | 19, _, e => by cases e; exact bd19
  | 20, _, e => by cases e; exact bd20
  | 21, _, e => by cases e; exact bd21
  | 22, _, e => by cases e; exact bd22
  | 23, _, e => by cases e; exact bd23
  | 24, _, e => by cases e; exact bd24
  | 25, _, e => by cases e; exact bd25
  | 26, _, e => by cases e; exact bd26
  | 27, _, e => by cases e; exact bd27
  | 28, _, e => by cases e; exact bd28
  | 29, _, e => by cases e; exact bd29
  | 30, _, e => by cases e; exact bd30
  | 31, _, e => by cases e; exact bd31
  | 32, _, e => by cases e; exact bd32
  | 33, _, e => by cases e; exact bd33
  | 34, _, e => by cases e; exact bd34
  | 35, _, e => by cases e; exact bd35
  | 36, _, e => by cases e; exact bd36
  | 37, _, e => by cases e; exact bd37
  | 38, _, e => by cases e; exact bd38
  | 39, _, e => by cases e; exact bd39
  | 40, _, e => by cases e; exact bd40
  | 41, _, e => by cases e; exact bd41
  | 42, _, e => by cases e; exact bd42
  | 43, _, e => by cases e; exact bd43
  | 44, _, e => by cases e; exact bd44
  | 45, _, e => by cases e; exact bd45
  | 46, _, e => by cases e; exact bd46
  | 47, _, e => by cases e; exact bd47
  | 48, _, e => by cases e; exact bd48
  | 49, _, e => by cases e; exact bd49
  | 50, _, e => by cases e; exact bd50
  | 51, _, e => by cases e; exact bd51
  | 52, _, e => by cases e; exact bd52
  | 53, _, e => by cases e; exact bd53
  | 54, _, e => by cases e; exact bd54
  | 55, _, e => by cases e; exact bd55
  | 56, _, e => by cases e; exact bd56
  | 57, _, e => by cases e; exact bd57
  | 58, _, e => by cases e; exact bd58
  | 59, _, e => by cases e; exact bd59
  | 60, _, e => by cases e; exact bd60
  | 61, _, e => by cases e; exact bd61
  | 62, _, e => by cases e; exact bd62
  | 63, _, e => by cases e; exact bd63
  | 64, _, e => by cases e; exact bd64
  | 65, _, e => by cases e; exact bd65
  | 66, _, e => by cases e; exact bd66
  | 67, _, e => by cases e; exact bd67
  | 68, _, e => by cases e; exact bd68
  | 69, _, e => by cases e; exact bd69
  | 70, _, e => by cases e; exact bd70
  | 71, _, e => by cases e; exact bd71
  | 72, _, e => by cases e; exact bd72
  | 73, _, e => by cases e; exact bd73
  | 74, _, e => by cases e; exact bd74
  | 75, _, e => by cases e; exact bd75
  | 76, _, e => by cases e; exact bd76
  | 77, _, e => by cases e; exact bd77
  | 78, _, e => by cases e; exact bd78
  | 79, _, e => by cases e; exact bd79
  | 80, _, e => by cases e; exact bd80
  | 81, _, e => by cases e; exact bd81
  | 82, _, e => by cases e; exact bd82
  | _ + 83, _, e => by cases e
theorem gsx : gsX gs = true := by decide +kernel
theorem tgx : tldG gs inis tol = true := by decide +kernel
theorem iok : inis.all IniI.ok = true := by decide +kernel
theorem tok : tol.ok = true := by decide +kernel
theorem bn_BadChanges (kV doc pm : Value) (an : Option Addr) (cdv ct : Value) (us : List Value) (hl : us.length = [ini_BadChanges.sf, ini_BadChanges.pn].length) : bindArgs (PySem.W.fnOf "__init__" ini_BadChanges.qual ini_BadChanges.args ini_BadChanges.body ini_BadChanges.scope .none kV doc pm an cdv ct) ⟨us, []⟩ = pure ([ini_BadChanges.sf, ini_BadChanges.pn].zip us) := match us, hl with | [_, _], _ => rfl
theorem bn_BadTurns (kV doc pm : Value) (an : Option Addr) (cdv ct : Value) (us : List Value) (hl : us.length = [ini_BadTurns.sf, ini_BadTurns.pn].length) : bindArgs (PySem.W.fnOf "__init__" ini_BadTurns.qual ini_BadTurns.args ini_BadTurns.body ini_BadTurns.scope .none kV doc pm an cdv ct) ⟨us, []⟩ = pure ([ini_BadTurns.sf, ini_BadTurns.pn].zip us) := match us, hl with | [_, _], _ => rfl
theorem bn_TooMany (kV doc pm : Value) (an : Option Addr) (cdv ct : Value) (us : List Value) (hl : us.length = [ini_TooMany.sf, ini_TooMany.pn].length) : bindArgs (PySem.W.fnOf "__init__" ini_TooMany.qual ini_TooMany.args ini_TooMany.body ini_TooMany.scope .none kV doc pm an cdv ct) ⟨us, []⟩ = pure ([ini_TooMany.sf, ini_TooMany.pn].zip us) := match us, hl with | [_, _], _ => rfl
theorem bni : ∀ i ∈ inis, ∀ (kV doc pm : Value) (an : Option Addr) (cdv ct : Value) (us : List Value), us.length = [i.sf, i.pn].length → bindArgs (PySem.W.fnOf "__init__" i.qual i.args i.body i.scope .none kV doc pm an cdv ct) ⟨us, []⟩ = pure ([i.sf, i.pn].zip us) := by
  intro i hi
  simp only [inis, List.mem_cons, List.not_mem_nil, or_false] at hi
  rcases hi with rfl | rfl | rfl
  · exact bn_BadChanges
  · exact bn_BadTurns
  · exact bn_TooMany
theorem bnt (kV doc pm : Value) (an : Option Addr) (cdv ct : Value) (us : List Value) (hl : us.length = [tol.a].length) : bindArgs (PySem.W.fnOf tol.x tol.x tol.args tol.body tol.scope .none kV doc pm an cdv ct) ⟨us, []⟩ = pure ([tol.a].zip us) := match us, hl with | [_], _ => rfl
end Ev.K22
open PySem PySem.W PySem.Calls PyProof.Rows
set_option maxHeartbeats 0 in
theorem PySem.Challenge.cw_askcuts_k22_order_of_errors_holds : PySem.Challenge.rw_askcuts_k22_order_of_errors.Holds := by
  w_on; o_law
  refine HandSHeadRun.head_imp (r := OpenLaw.row PySem.Challenge.rw_askcuts_k22_order_of_errors) (q := view (OpenLaw.row PySem.Challenge.rw_askcuts_k22_order_of_errors).prog [0, 126]) (H := Ev.K22.hk) (ob := Ev.K22.ob) (M := 20000) (loose := Ev.K22.names) (d := HandSHeadRun.topDef (OpenLaw.row PySem.Challenge.rw_askcuts_k22_order_of_errors).prog 126) (kwd := []) Ev.K22.ob_eq
    Ev.K22.run (by kernel_rfl) (by kernel_rfl) (by kernel_rfl) (by rfl) (by first | assumption | decide +kernel) (by decide +kernel) ⟨rfl, rfl, rfl, rfl, rfl, by decide +kernel⟩ ?hw ?hc
  case hw => w_witness2
  case hc =>
    refine LamX.walk_ofTsE (l := PySem.Challenge.rw_askcuts_k22_order_of_errors) (n := 63) (k := 230) (x := "_law_script") (CX := fun w => L2.CX (PySem.Challenge.rw_askcuts_k22_order_of_errors).prog w) rfl (by decide) (by kernel_rfl) ⟨rfl, by decide, by decide⟩ ?F (fun _ _ _ _ _ ⟨_, _, _, _, _, _, _, _, _, _, _, _, z⟩ => z)
    intro w mg fa h Y G hmg0
    obtain ⟨K, KX, c⟩ := Y
    have hmg : mg Ev.K22.d_law.name = some (.ref fa) := by
      have e : (HandSHeadRun.topDef (OpenLaw.row PySem.Challenge.rw_askcuts_k22_order_of_errors).prog 126).name = ("law" : PySem.Str) := by kernel_rfl
      show mg ("law" : PySem.Str) = _
      rw [← e]
      exact hmg0
    exact ⟨K, KX, Ev.law_at (ds := Ev.K22.defs) (code := Ev.K22.code) (fuel := 100000) (k := 76) (ln := 82) (lw := Ev.K22.d_law) KX G (Ev.says_and c).1 rfl hmg Ev.K22.dcs Ev.K22.gsc Ev.K22.cd Ev.K22.bds rfl rfl rfl rfl (Ev.exc_told KX G (Ev.says_and c).1 (Bool.and_eq_true_iff.mp (Ev.says_and c).1.more).1 (Ev.says_and c).2 Ev.K22.gsx Ev.K22.tgx Ev.K22.iok Ev.K22.tok Ev.K22.bni Ev.K22.bnt) Ev.K22.math⟩
