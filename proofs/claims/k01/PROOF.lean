import PyProof.Rows.All
import Wide.All
import OpenK.AllK
import Wide.FinOn
import HandS.ForExc
import HandS.Comp
import HandS.SortInts
import HandS.TupMul
import HandS.TupAny
import HandS.ForMost
import HandS.Lambda
import HandS.TupLen
import HandS.WordsDict
import HandS.Deep
import HandS.Flow
import HandS.Style
import KE.GoesNew
import KE.GoesMore
import HandS.Iter
import HandS.RaiseMore
import HandS.Defaults
import HandS.HeadEnd
import HandS.Exc
import HandS.ExcIs
import HandS.IsInst
import HandS.SetFor
import KE.KDictZip
import KE.KDictKeyed
import KE.GoesZip
import KE.KExcIs
import HandS.Conv
import HandS.Head0
import HandS.Head1
import HandS.Head2
import HandS.HeadHook1
import HandS.HeadHook2
import HandS.HeadHook4
import HandS.EndTab
import HandS.NestedK
import HandS.HeadHook3
import KE.KStateDown
import PySem.Challenge.RW_signsalone_k01_whole_rows_of_signs
set_option Elab.async false
set_option linter.all false
set_option maxRecDepth 100000
/-! Mini1: values, store, abstract trees, evaluator. -/
namespace Mini
open PySem

/-- a value, whole: tuples and locked lists, dicts, instances by what they hold; ref n: the n-th thing of the store; glo x: what the module's name x stands for -/
inductive PV where
  | non | bl (b : Bool) | int (i : Int) | str (s : Str) | ty (n : String)
  | tup (xs : List PV) | lst (xs : List PV) | scr (xs : List PV) | dic (t : Bool) (ks vs : List PV)
  | exn (c : Str) (ns : List Str) (vs : List PV) | ins (c : Str) (ns : List Str) (vs : List PV)
  | ref (n : Nat) | glo (x : Str) | clo (k : Nat)
  deriving Inhabited

/-- a thing of the store -/
inductive SO where
  | lst (xs : List PV) | dic (t : Bool) (ks vs : List PV) | ins (c : Str) (ns : List Str) (vs : List PV)
  deriving Inhabited
abbrev Store := List SO

inductive R (α : Type) where
  | ok (a : α) (s : Store) | exc (x : PV) (s : Store) | stuck
abbrev M (α : Type) := Store → R α
def M.ret {α : Type} (a : α) : M α := fun s => .ok a s
def M.stuck {α : Type} : M α := fun _ => .stuck
def M.bnd {α β : Type} (m : M α) (f : α → M β) : M β := fun s => match m s with
  | .ok a s' => f a s'
  | .exc x s' => .exc x s'
  | .stuck => .stuck
def M.opt {α : Type} : Option α → M α
  | some a => M.ret a
  | none => M.stuck
def M.raise {α : Type} (x : PV) : M α := fun s => .exc x s

/-- what a statement comes to -/
abbrev Env := List (Option PV)
inductive Fl where
  | nx (ρ : Env) | rt (v : PV) | bk (ρ : Env) | ct (ρ : Env)
inductive SR where
  | ok (f : Fl) (s : Store) | exc (x : PV) (ρ : Env) (s : Store) | stuck
abbrev MS := Env → Store → SR

/-! ### data: what == and repr see -/
mutual
def toD : PV → Option PyData
  | .non => some .none
  | .bl b => some (.bool b)
  | .int i => some (.int i)
  | .str x => some (.str x)
  | .tup xs => (toDs xs).map .tuple
  | .lst xs => (toDs xs).map .list
  | _ => none
def toDs : List PV → Option (List PyData)
  | [] => some []
  | x :: xs => match toD x with
    | some d => match toDs xs with
      | some ds => some (d :: ds)
      | none => none
    | none => none
end
/-- the items of a list or tuple -/
def seqOf (s : Store) : PV → Option (List PV)
  | .tup xs => some xs
  | .lst xs => some xs
  | .scr xs => some xs
  | .ref n => match s[n]? with
    | some (.lst xs) => some xs
    | _ => none
  | _ => none
/-- a list -/
def lstOf (s : Store) : PV → Option (List PV)
  | .lst xs => some xs
  | .ref n => match s[n]? with
    | some (.lst xs) => some xs
    | _ => none
  | _ => none
/-- a dict: are its keys tuples?; the keys, the values -/
def dicOf (s : Store) : PV → Option (Bool × List PV × List PV)
  | .dic t ks vs => some (t, ks, vs)
  | .ref n => match s[n]? with
    | some (.dic t ks vs) => some (t, ks, vs)
    | _ => none
  | _ => none
/-- data, a list of the store read -/
def toDS (s : Store) : PV → Option PyData
  | .ref n => match s[n]? with
    | some (.lst xs) => (toDs xs).map .list
    | _ => none
  | v => toD v
def okD (d : PyData) : Bool := SeqAt.shaped d

/-! ### equality of values, decided -/
mutual
def peq : PV → PV → Bool
  | .non, .non => true
  | .bl a, .bl b => a == b
  | .int a, .int b => decide (a = b)
  | .str a, .str b => decide (a = b)
  | .ty a, .ty b => decide (a = b)
  | .tup a, .tup b => peqs a b
  | .lst a, .lst b => peqs a b
  | .scr a, .scr b => peqs a b
  | .dic t a c, .dic u b d => (t == u) && (peqs a b && peqs c d)
  | .exn a n c, .exn b m d => decide (a = b) && (decide (n = m) && peqs c d)
  | .ins a n c, .ins b m d => decide (a = b) && (decide (n = m) && peqs c d)
  | .ref a, .ref b => decide (a = b)
  | .glo a, .glo b => decide (a = b)
  | .clo a, .clo b => decide (a = b)
  | _, _ => false
def peqs : List PV → List PV → Bool
  | [], [] => true
  | a :: as, b :: bs => peq a b && peqs as bs
  | _, _ => false
end
mutual
theorem peq_refl : ∀ a : PV, peq a a = true
  | .non => rfl
  | .bl a => by unfold peq; simp
  | .int a => by unfold peq; simp
  | .str a => by unfold peq; simp
  | .ty a => by unfold peq; simp
  | .tup a => by unfold peq; exact peqs_refl a
  | .lst a => by unfold peq; exact peqs_refl a
  | .scr a => by unfold peq; exact peqs_refl a
  | .dic t a c => by unfold peq; rw [peqs_refl a, peqs_refl c]; simp
  | .exn a n c => by unfold peq; rw [peqs_refl c]; simp
  | .ins a n c => by unfold peq; rw [peqs_refl c]; simp
  | .ref a => by unfold peq; simp
  | .glo a => by unfold peq; simp
  | .clo a => by unfold peq; simp
theorem peqs_refl : ∀ a : List PV, peqs a a = true
  | [] => rfl
  | a :: as => by unfold peqs; rw [peq_refl a, peqs_refl as]; rfl
end
mutual
theorem peq_ok : ∀ a b : PV, peq a b = true → a = b
  | .non, b, h => by cases b <;> simp_all [peq]
  | .bl a, b, h => by cases b <;> simp_all [peq]
  | .int a, b, h => by cases b <;> simp_all [peq]
  | .str a, b, h => by cases b <;> simp_all [peq]
  | .ty a, b, h => by cases b <;> simp_all [peq]
  | .tup a, b, h => by
    cases b <;> simp only [peq, Bool.false_eq_true] at h
    rw [peqs_ok _ _ h]
  | .lst a, b, h => by
    cases b <;> simp only [peq, Bool.false_eq_true] at h
    rw [peqs_ok _ _ h]
  | .scr a, b, h => by
    cases b <;> simp only [peq, Bool.false_eq_true] at h
    rw [peqs_ok _ _ h]
  | .dic t a c, b, h => by
    cases b <;> simp only [peq, Bool.false_eq_true, Bool.and_eq_true, beq_iff_eq] at h
    rw [h.1, peqs_ok _ _ h.2.1, peqs_ok _ _ h.2.2]
  | .exn a n c, b, h => by
    cases b <;> simp only [peq, Bool.false_eq_true, Bool.and_eq_true, decide_eq_true_eq] at h
    rw [h.1, h.2.1, peqs_ok _ _ h.2.2]
  | .ins a n c, b, h => by
    cases b <;> simp only [peq, Bool.false_eq_true, Bool.and_eq_true, decide_eq_true_eq] at h
    rw [h.1, h.2.1, peqs_ok _ _ h.2.2]
  | .ref a, b, h => by cases b <;> simp_all [peq]
  | .glo a, b, h => by cases b <;> simp_all [peq]
  | .clo a, b, h => by cases b <;> simp_all [peq]
theorem peqs_ok : ∀ a b : List PV, peqs a b = true → a = b
  | [], b, h => by cases b <;> simp_all [peqs]
  | a :: as, b, h => by
    cases b <;> simp only [peqs, Bool.false_eq_true, Bool.and_eq_true] at h
    rw [peq_ok _ _ h.1, peqs_ok _ _ h.2]
end

/-! ### dicts -/
/-- a key: an int or a text -/
def keyB : PV → Bool
  | .int _ => true
  | .str _ => true
  | _ => false
/-- a key of a dict of that kind -/
def keyOk : Bool → PV → Bool
  | false, k => keyB k
  | true, k => match k with
    | .tup xs => xs.all keyB
    | _ => false
def dget : List PV → List PV → PV → Option PV
  | k' :: ks, v :: vs, k => if peq k' k then some v else dget ks vs k
  | _, _, _ => none
def dhas (ks : List PV) (k : PV) : Bool := ks.any fun k' => peq k' k
def dset : List PV → List PV → PV → PV → List PV
  | k' :: ks, v :: vs, k, y => (if peq k' k then y else v) :: dset ks vs k y
  | _, _, _, _ => []
/-- keys and values behind d[k] = y -/
def dput (ks vs : List PV) (k y : PV) : List PV × List PV := if dhas ks k then (ks, dset ks vs k y) else (ks ++ [k], vs ++ [y])
/-! ### operators -/
inductive Bop where
  | add | sub | mul | fdiv | mod | pow
  deriving DecidableEq
inductive Cop where
  | eq | ne | lt | le | gt | ge | is | isnot | isin | notin
  deriving DecidableEq
def small64 (i : Int) : Bool := decide (-(2 ^ 64) < i ∧ i < 2 ^ 64)
def alloc (o : SO) : M PV := fun s => .ok (.ref s.length) (s ++ [o])
/-- what changes nothing and raises nothing -/
def M.lift {α : Type} (f : Store → Option α) : M α := fun s => match f s with
  | some v => .ok v s
  | none => .stuck
def M.liftS {α : Type} (f : Store → Option (α × Store)) : M α := fun s => match f s with
  | some (v, s') => .ok v s'
  | none => .stuck
def rep {α : Type} (n : Nat) (xs : List α) : List α := (List.replicate n xs).flatten
def szOk (n : Nat) : Bool := decide (n ≤ sizeLine)
def repOk (k : Int) (n : Nat) : Bool := decide (-(2 ^ 63) ≤ k ∧ k < 2 ^ 63) && szOk (n * k.toNat)
def addL (s : Store) (x y : PV) : Option PV := match lstOf s x, lstOf s y with
  | some xs, some ys => if szOk (xs.length + ys.length) then some (.lst (xs ++ ys)) else none
  | _, _ => none
def mulL (s : Store) (x : PV) (k : Int) : Option PV := match lstOf s x with
  | some xs => if repOk k xs.length then some (.lst (rep k.toNat xs)) else none
  | none => none
def bop (o : Bop) (x y : PV) (s : Store) : Option PV := match o with
  | .add => (match x, y with
    | .int i, .int j => some (.int (i + j))
    | .str x, .str y => if szOk (x.length + y.length) then some (.str (x ++ y)) else none
    | .tup xs, .tup ys => if szOk (xs.length + ys.length) then some (.tup (xs ++ ys)) else none
    | x, y => addL s x y)
  | .sub => (match x, y with
    | .int i, .int j => some (.int (i - j))
    | _, _ => none)
  | .mul => (match x, y with
    | .int i, .int j => if small64 i || small64 j then some (.int (i * j)) else none
    | .tup xs, .int k => if decide (-(2 ^ 63) ≤ k ∧ k < 2 ^ 63 ∧ (xs.length = 0 ∨ k ≤ 1 ∨ (k ≤ 1000 ∧ xs.length ≤ 1000))) then some (.tup (rep k.toNat xs)) else none
    | x, .int k => mulL s x k
    | _, _ => none)
  | .fdiv => (match x, y with
    | .int i, .int j => if decide (0 < j ∧ j < 1073741824) then some (.int (i / j)) else none
    | _, _ => none)
  | .mod => (match x, y with
    | .int i, .int j => if decide (0 < j) then some (.int (i % j)) else none
    | _, _ => none)
  | .pow => (match x, y with
    | .int i, .int j => if decide (0 ≤ j ∧ j ≤ 1000000 ∧ i.natAbs < 2 ^ 64) then some (.int (i ^ j.toNat)) else none
    | _, _ => none)
def eqD (s : Store) (a b : PV) : Option Bool := match toDS s a, toDS s b with
  | some d, some e => if okD d && okD e then some (PyData.eqv d e) else none
  | _, _ => none
def inD (s : Store) (a b : PV) : Option Bool := match toDS s a, (seqOf s b).bind toDs with
  | some d, some es => if okD d && okD (.list es) then some (es.any fun z => PyData.eqv z d) else none
  | _, _ => none
def isV : PV → PV → Option Bool
  | x, .non => match x with
    | .non => some true
    | .glo _ => none
    | _ => some false
  | .bl a, .bl b => some (a == b)
  | _, _ => none
def cmpI : Cop → Int → Int → Option Bool
  | .lt, i, j => some (decide (i < j))
  | .le, i, j => some (decide (i ≤ j))
  | .gt, i, j => some (decide (j < i))
  | .ge, i, j => some (decide (j ≤ i))
  | _, _, _ => none
def inG (s : Store) (a b : PV) : Option Bool := match dicOf s b with
  | some (t, ks, _) => if keyOk t a then some (dhas ks a) else none
  | none => inD s a b
def cop (o : Cop) (a b : PV) (s : Store) : Option Bool := match o with
  | .eq => eqD s a b
  | .ne => (eqD s a b).map not
  | .isin => inG s a b
  | .notin => (inG s a b).map not
  | .is => isV a b
  | .isnot => (isV a b).map not
  | o => (match a, b with
    | .int i, .int j => cmpI o i j
    | _, _ => none)
/-- truth -/
def truth (s : Store) : PV → Option Bool
  | .non => some false
  | .bl b => some b
  | .int i => some (i != 0)
  | .str x => if szOk x.length then some (x.length != 0) else none
  | .tup xs => some (!xs.isEmpty)
  | .lst xs => some (!xs.isEmpty)
  | .ref n => match s[n]? with
    | some (.lst xs) => some (!xs.isEmpty)
    | _ => none
  | _ => none

/-! ### built-ins -/
inductive Bi where
  | len | all | any | abs | tuple | list | int | max2 | min2 | sorted | max1 | min1 | sum | repr
  deriving DecidableEq
def blsOf : List PV → Option (List Bool)
  | [] => some []
  | .bl b :: r => (blsOf r).map (b :: ·)
  | _ :: _ => none
def intsOf : List PV → Option (List Int)
  | [] => some []
  | .int b :: r => (intsOf r).map (b :: ·)
  | _ :: _ => none
def lenF (s : Store) : List PV → Option PV
  | [.str x] => if szOk x.length then some (.int x.length) else none
  | [v] => (match dicOf s v with
    | some (_, ks, _) => some (.int ks.length)
    | none => (seqOf s v).map fun xs => .int xs.length)
  | _ => none
def allF (s : Store) : List PV → Option PV
  | [v] => (lstOf s v).bind fun xs => (blsOf xs).map fun bs => .bl (bs.all id)
  | _ => none
def anyF (s : Store) : List PV → Option PV
  | [v] => (lstOf s v).bind fun xs => (blsOf xs).map fun bs => .bl (bs.any id)
  | _ => none
def absF : List PV → Option PV
  | [.int i] => some (.int (if i < 0 then -i else i))
  | _ => none
def tupleF (s : Store) : List PV → Option PV
  | [v] => (seqOf s v).map .tup
  | _ => none
def listF (s : Store) : List PV → Option PV
  | [v] => (seqOf s v).map .lst
  | _ => none
def intF : List PV → Option PV
  | [.int i] => some (.int i)
  | [.bl b] => some (.int (if b then 1 else 0))
  | _ => none
def maxF : List PV → Option PV
  | [.int i, .int j] => some (.int (if j > i then j else i))
  | _ => none
def minF : List PV → Option PV
  | [.int i, .int j] => some (.int (if j < i then j else i))
  | _ => none
def insI (x : Int) : List Int → List Int
  | [] => [x]
  | y :: r => if x ≤ y then x :: y :: r else y :: insI x r
def sortI : List Int → List Int
  | [] => []
  | x :: r => insI x (sortI r)
def seqI (s : Store) (v : PV) : Option (List Int) := (seqOf s v).bind intsOf
def sortedF (s : Store) : List PV → Option PV
  | [v] => (seqI s v).map fun ns => .lst ((sortI ns).map .int)
  | _ => none
def maxL : List Int → Int
  | [] => 0
  | [x] => x
  | x :: y :: r => let m := maxL (y :: r); if x ≤ m then m else x
def minL : List Int → Int
  | [] => 0
  | [x] => x
  | x :: y :: r => let m := minL (y :: r); if m ≤ x then m else x
def max1F (s : Store) : List PV → Option PV
  | [v] => ((lstOf s v).bind intsOf).bind fun ns => if ns.isEmpty then none else some (.int (maxL ns))
  | _ => none
def min1F (s : Store) : List PV → Option PV
  | [v] => ((lstOf s v).bind intsOf).bind fun ns => if ns.isEmpty then none else some (.int (minL ns))
  | _ => none
def sumF (s : Store) : List PV → Option PV
  | [v] => ((lstOf s v).bind intsOf).map fun ns => .int ns.sum
  | _ => none
def isSq : PyData → Bool
  | .list _ => true
  | .tuple _ => true
  | _ => false
def showOk (d : PyData) : Bool := d.showable && (!d.hasDict && (decide (d.depth ≤ 60) && decide (d.shown.length ≤ sizeLine)))
def reprF (s : Store) : List PV → Option PV
  | [.non] => some (.str "None")
  | [.int i] => if decide (i.natAbs.log2 < 1920) then some (.str (toString i)) else none
  | [v] => (toDS s v).bind fun d => if isSq d && showOk d then some (.str d.shown) else none
  | _ => none
def biF (b : Bi) (vs : List PV) (s : Store) : Option PV := match b with
  | .len => lenF s vs
  | .all => allF s vs
  | .any => anyF s vs
  | .abs => absF vs
  | .tuple => tupleF s vs
  | .list => listF s vs
  | .int => intF vs
  | .max2 => maxF vs
  | .min2 => minF vs
  | .sorted => sortedF s vs
  | .max1 => max1F s vs
  | .min1 => min1F s vs
  | .sum => sumF s vs
  | .repr => reprF s vs

/-! ### methods of lists -/
inductive Mt where
  | append | pop | popat
  deriving DecidableEq
def methL (m : Mt) (n : Nat) (xs vs : List PV) (s : Store) : Option (PV × Store) := match m with
  | .append => (match vs with
    | [y] => if decide (xs.length < sizeLine) then some (.non, s.set n (.lst (xs ++ [y]))) else none
    | _ => none)
  | .pop => (match vs with
    | [] => (match xs[xs.length - 1]? with
      | some y => some (y, s.set n (.lst xs.dropLast))
      | none => none)
    | _ => none)
  | .popat => (match vs with
    | [.int i] => (match L2.ixN xs.length i with
      | some j => (match xs[j]? with
        | some y => some (y, s.set n (.lst (xs.eraseIdx j)))
        | none => none)
      | none => none)
    | _ => none)
def meth (m : Mt) (o : PV) (vs : List PV) (s : Store) : Option (PV × Store) := match o with
  | .ref n => (match s[n]? with
    | some (.lst xs) => methL m n xs vs s
    | _ => none)
  | _ => none
def intV : PV → Option Int
  | .int i => some i
  | _ => none
/-- xs.count(k), whole numbers -/
def cntF (x y : PV) (s : Store) : Option PV := (intV y).bind fun k => ((lstOf s x).bind intsOf).map fun ns => .int (ns.count k : Nat)
/-- isinstance(x, c), c a class of errors of the package: up: all of cs are under it -/
def isxF (c : Str) (up : Bool) (cs : List Str) (x : PV) : Option PV := match x with
  | .non => some (.bl false)
  | .exn d _ _ => if decide (d ∈ cs) then some (.bl (up || decide (d = c))) else none
  | _ => none
/-- in the order that is told -/
def permV {α : Type} (pm : List Nat) (vs : List α) : List α := pm.filterMap fun i => vs[i]?
/-- a[i] -/
def subG (a i : PV) (s : Store) : Option PV := match dicOf s a with
  | some (t, ks, vs) => if keyOk t i then dget ks vs i else none
  | none => (match seqOf s a, i with
    | some xs, .int j => L2.atI xs j
    | _, _ => none)
/-- a[lo:hi] -/
def cutP (xs : List PV) (lo hi : Option Int) : List PV := (xs.drop (HT.sIx xs.length 0 lo)).take (HT.sIx xs.length xs.length hi - HT.sIx xs.length 0 lo)
def slcG (a : PV) (lo hi : Option Int) (s : Store) : Option PV := match a with
  | .tup xs => some (.tup (cutP xs lo hi))
  | v => (lstOf s v).map fun xs => .lst (cutP xs lo hi)
/-- a[i] = v -/
def setI (o i v : PV) : Store → Option Store := fun s => match o with
  | .ref n => (match s[n]? with
    | some (.lst xs) => (match i with
      | .int k => (match L2.ixN xs.length k with
        | some j => some (s.set n (.lst (xs.set j v)))
        | none => none)
      | _ => none)
    | some (.dic t ks vs) => if keyOk t i && decide (ks.length < sizeLine) then some (s.set n (.dic t (dput ks vs i v).1 (dput ks vs i v).2)) else none
    | _ => none)
  | _ => none

/-- the type's name -/
def tyN (s : Store) : PV → Option String
  | .non => some "NoneType"
  | .bl _ => some "bool"
  | .int _ => some "int"
  | .str _ => some "str"
  | .tup _ => some "tuple"
  | .lst _ => some "list"
  | .dic _ _ _ => some "dict"
  | .ref n => match s[n]? with
    | some (.lst _) => some "list"
    | some (.dic _ _ _) => some "dict"
    | _ => none
  | _ => none
inductive Ty where
  | int | bool | str | tuple | list | dict
  deriving DecidableEq
def tyS : Ty → String
  | .int => "int"
  | .bool => "bool"
  | .str => "str"
  | .tuple => "tuple"
  | .list => "list"
  | .dict => "dict"
def isTy (n : String) (t : Ty) : Bool := decide (n = tyS t) || (decide (n = "bool") && decide (t = .int))
def isiF (t : Ty) (v : PV) (s : Store) : Option PV := (tyN s v).map fun n => .bl (isTy n t)
/-- keys and values put in, one after another -/
def dfill (acc : List PV × List PV) (ps : List (PV × PV)) : List PV × List PV := ps.foldl (fun acc p => dput acc.1 acc.2 p.1 p.2) acc
def pairUp : List PV → List (PV × PV)
  | k :: v :: r => (k, v) :: pairUp r
  | _ => []
def mkDic (mu t : Bool) (d : List PV × List PV) : M PV := if mu then alloc (.dic t d.1 d.2) else M.ret (.dic t d.1 d.2)
def dzipF (x y : PV) (s : Store) : Option (List PV × List PV) := (seqOf s x).bind fun xs => (seqOf s y).bind fun ys => if xs.all (keyOk true) then some (dfill ([], []) (xs.zip ys)) else none
def ddI : List Int → List Int
  | [] => []
  | x :: r => if r.contains x then ddI r else x :: ddI r
def lsetF (v : PV) (s : Store) : Option PV := (seqI s v).bind fun ns => if decide (ns.length + 1 < 4096) then some (.int (ddI ns).length) else none
def ssetF (v : PV) (s : Store) : Option PV := (seqI s v).bind fun ns => if decide (ns.length < 64) then some (.lst ((sortI (ddI ns)).map .int)) else none
def rgOk (i j : Int) : Bool := decide (-(2 ^ 62) ≤ i ∧ i < 2 ^ 62 ∧ -(2 ^ 62) ≤ j ∧ j < 2 ^ 62 ∧ (j - i).toNat ≤ 2 ^ 24)
def mkRg (k : Nat) (i j : Int) : M PV := if rgOk i j then (match k with
  | 0 => M.ret (.lst ((List.range (j - i).toNat).map fun k => .int (i + (k : Nat))))
  | 1 => alloc (.lst ((List.range (j - i).toNat).map fun k => .int (i + (k : Nat))))
  | _ => M.ret (.tup ((List.range (j - i).toNat).map fun k => .int (i + (k : Nat))))) else M.stuck
/-- a new list of lists put together, or of one repeated -/
def lopF (o : Bop) (x y : PV) (s : Store) : Option (List PV) := match o with
  | .add => (lstOf s x).bind fun xs => (lstOf s y).bind fun ys => if szOk (xs.length + ys.length) then some (xs ++ ys) else none
  | .mul => (intV y).bind fun k => (lstOf s x).bind fun xs => if repOk k xs.length then some (rep k.toNat xs) else none
  | _ => none
/-! ### abstract trees -/
mutual
inductive E where
  | var (i : Nat)
  | non | bl (b : Bool) | int (i : Int) | str (x : Str)
  /-- a number of the module -/
  | gint (x : Str) (i : Int)
  | tup (es : Es)
  | lst (mu : Bool) (es : Es)
  | op (o : Bop) (a b : E)
  | neg (a : E)
  | cmp (o : Cop) (a b : E)
  | chain (o o' : Cop) (a b c : E)
  | not (a : E)
  | and (a b : E)
  | or (a b : E)
  | ite (c a b : E)
  | call (f : Str) (es : Es)
  | bi (b : Bi) (es : Es)
  | meth (m : Mt) (o : E) (es : Es)
  | sub (a i : E)
  | isi (a : E) (t : Ty)
  /-- isinstance(a, c), c a class of errors of the package, or (up) one that all of them are under -/
  | isx (a : E) (c : Str) (up : Bool) (cs : List Str)
  /-- a.count(b) -/
  | cnt (a b : E)
  /-- f(k = e, ..) -/
  | callk (f : Str) (ks : List Str) (pm : List Nat) (es : Es)
  /-- key, value, key, value, .. -/
  | dict (mu : Bool) (es : Es)
  | dnew (mu t : Bool)
  | dzip (mu : Bool) (a b : E)
  | lset (a : E)
  | sset (a : E)
  /-- list(a), in the store -/
  | mls (a : E)
  /-- a + b, a * b of lists, in the store -/
  | mop (o : Bop) (a b : E)
  /-- list(range(b)): 0 locked, 1 in the store; tuple(range(b)): 2 -/
  | rgl (k : Nat) (b : E)
  | rgl2 (k : Nat) (a b : E)
  | slc (a : E) (lo hi : Es)
  | lc (mu : Bool) (elt : E) (tg : Tg) (it : It) (ifs : Es) (own : List (Str × Nat))
  /-- the k-th lambda of the def, made -/
  | lamk (k : Nat)
  /-- _law_caught(x), x the i-th name, one of the def's lambdas; cs: the errors that are caught, es: the lambdas' bodies -/
  | caught (i : Nat) (cs : List Str) (es : Es)
  /-- _law_caught(lambda: e), the k-th lambda -/
  | caughtL (k : Nat) (cs : List Str) (e : E)
  | lc2 (mu : Bool) (elt : E) (tg : Tg) (it : It) (ifs : Es) (tg2 : Tg) (it2 : It) (ifs2 : Es) (own : List (Str × Nat)) (own2 : List Nat)
inductive Es where
  | nil | cons (e : E) (r : Es)
inductive Tg where
  | nm (i : Nat) | tp (ts : Tgs) | sb (o i : E)
inductive Tgs where
  | nil | cons (t : Tg) (r : Tgs)
inductive It where
  | val (e : E) | rng (a b : E) | rng1 (b : E) | zip (a b : E) | enum (a : E)
end
mutual
inductive S where
  | asg (t : Tg) (e : E)
  | par (ix : List Nat) (es : Es)
  | ex (e : E)
  | ret (e : E)
  | retN
  | iff (c : E) (a b : Ss)
  | forr (t : Tg) (it : It) (b : Ss)
  | whl (fuel : Nat) (c : E) (b : Ss)
  | pas | brk | cnt
  | rse (c : Str)
inductive Ss where
  | nil | cons (a : S) (r : Ss)
end

/-! ### loops -/
/-- what a loop walks: the items, and the lists of the store that must stay as they are meanwhile -/
abbrev Walk := List PV × List (Nat × List PV)
def stays (wt : List (Nat × List PV)) (s : Store) : Bool := wt.all fun p => match s[p.1]? with
  | some (.lst ys) => peqs p.2 ys
  | _ => false
/-- the lists of the store that a value is -/
def watch (s : Store) : PV → List (Nat × List PV)
  | .ref n => match s[n]? with
    | some (.lst xs) => [(n, xs)]
    | _ => []
  | _ => []
def wipe (ρ : Env) : List Nat → Env
  | [] => ρ
  | v :: vs => (wipe ρ vs).set v none
def forGo (wt : List (Nat × List PV)) (bind : PV → Env → M Env) (body : MS) : List PV → MS
  | [], ρ, s => if stays wt s then .ok (.nx ρ) s else .stuck
  | x :: r, ρ, s => if stays wt s then (match bind x ρ s with
      | .ok ρ1 s1 => (match body ρ1 s1 with
        | .ok (.nx ρ2) s2 => forGo wt bind body r ρ2 s2
        | .ok (.ct ρ2) s2 => forGo wt bind body r ρ2 s2
        | .ok (.bk ρ2) s2 => .ok (.nx ρ2) s2
        | .ok (.rt v) s2 => .ok (.rt v) s2
        | .exc e ρ2 s2 => .exc e ρ2 s2
        | .stuck => .stuck)
      | _ => .stuck) else .stuck
def compGo (wt : List (Nat × List PV)) (bind : PV → M Env) (test : Env → M Bool) (el : Env → M (List PV)) : List PV → M (List PV)
  | [], s => if stays wt s then .ok [] s else .stuck
  | x :: r, s => if stays wt s then (match bind x s with
      | .ok ρ1 s1 => (match test ρ1 s1 with
        | .ok true s2 => (match el ρ1 s2 with
          | .ok ys s3 => (match compGo wt bind test el r s3 with
            | .ok zs s4 => .ok (ys ++ zs) s4
            | _ => .stuck)
          | _ => .stuck)
        | .ok false s2 => compGo wt bind test el r s2
        | _ => .stuck)
      | _ => .stuck) else .stuck
def whlGo (test : Env → M Bool) (body : MS) : Nat → MS
  | 0, _, _ => .stuck
  | n + 1, ρ, s => match test ρ s with
    | .ok false s1 => .ok (.nx ρ) s1
    | .ok true s1 => (match body ρ s1 with
      | .ok (.nx ρ2) s2 => whlGo test body n ρ2 s2
      | .ok (.ct ρ2) s2 => whlGo test body n ρ2 s2
      | .ok (.bk ρ2) s2 => .ok (.nx ρ2) s2
      | .ok (.rt v) s2 => .ok (.rt v) s2
      | .exc e ρ2 s2 => .exc e ρ2 s2
      | .stuck => .stuck)
    | .exc e s1 => .exc e ρ s1
    | .stuck => .stuck
def truthM (v : PV) : M Bool := M.lift fun s => truth s v
def rngOk (i j : Int) : Bool := decide (-(2 ^ 62) ≤ i ∧ i < 2 ^ 62 ∧ -(2 ^ 62) ≤ j ∧ j < 2 ^ 62)
def rngV (i j : Int) : List PV := (List.range (j - i).toNat).map fun k => .int (i + (k : Nat))
def enumV (xs : List PV) : List PV := (xs.zipIdx).map fun p => .tup [.int p.2, p.1]
def zipV (xs ys : List PV) : List PV := List.zipWith (fun x y => .tup [x, y]) xs ys
def mkLst (mu : Bool) (xs : List PV) : M PV := if szOk xs.length then (if mu then alloc (.lst xs) else M.ret (.lst xs)) else M.stuck

def negV : PV → Option PV
  | .int i => some (.int (-i))
  | _ => none
/-- the error that some work raises, None if it raises none -/
def caughtM (cs : List Str) (m : M PV) : M PV := fun s => match m s with
  | .ok _ s' => .ok .non s'
  | .exc (.exn c ns vs) s' => if decide (c ∈ cs) then .ok (.exn c ns vs) s' else .stuck
  | _ => .stuck
/-! ### the evaluator -/
section
variable (Φ : Str → List PV → M PV)
mutual
def evE : E → Env → M PV
  | .var i, ρ => M.opt (ρ[i]?.join)
  | .non, _ => M.ret .non
  | .bl b, _ => M.ret (.bl b)
  | .int i, _ => M.ret (.int i)
  | .str x, _ => M.ret (.str x)
  | .gint _ i, _ => M.ret (.int i)
  | .tup es, ρ => (evEs es ρ).bnd fun vs => if szOk vs.length then M.ret (.tup vs) else M.stuck
  | .lst mu es, ρ => (evEs es ρ).bnd fun vs => mkLst mu vs
  | .op o a b, ρ => (evE a ρ).bnd fun x => (evE b ρ).bnd fun y => M.lift (bop o x y)
  | .neg a, ρ => (evE a ρ).bnd fun x => M.lift fun _ => negV x
  | .cmp o a b, ρ => (evE a ρ).bnd fun x => (evE b ρ).bnd fun y => (M.lift (cop o x y)).bnd fun c => M.ret (.bl c)
  | .chain o o' a b c, ρ => (evE a ρ).bnd fun x => (evE b ρ).bnd fun y => (M.lift (cop o x y)).bnd fun z => if z then (evE c ρ).bnd fun u => (M.lift (cop o' y u)).bnd fun c => M.ret (.bl c) else M.ret (.bl false)
  | .not a, ρ => (evE a ρ).bnd fun x => (truthM x).bnd fun b => M.ret (.bl (!b))
  | .and a b, ρ => (evE a ρ).bnd fun x => (truthM x).bnd fun k => if k then evE b ρ else M.ret x
  | .or a b, ρ => (evE a ρ).bnd fun x => (truthM x).bnd fun k => if k then M.ret x else evE b ρ
  | .ite c a b, ρ => (evE c ρ).bnd fun x => (truthM x).bnd fun k => if k then evE a ρ else evE b ρ
  | .call f es, ρ => (evEs es ρ).bnd fun vs => Φ f vs
  | .bi b es, ρ => (evEs es ρ).bnd fun vs => M.lift (biF b vs)
  | .meth m o es, ρ => (evE o ρ).bnd fun x => (M.lift fun s => lstOf s x).bnd fun _ => (evEs es ρ).bnd fun vs => M.liftS (meth m x vs)
  | .sub a i, ρ => (evE a ρ).bnd fun x => (evE i ρ).bnd fun y => M.lift (subG x y)
  | .isi a t, ρ => (evE a ρ).bnd fun x => M.lift (isiF t x)
  | .isx a c up cs, ρ => (evE a ρ).bnd fun x => M.lift fun _ => isxF c up cs x
  | .cnt a b, ρ => (evE a ρ).bnd fun x => (M.lift fun s => lstOf s x).bnd fun _ => (evE b ρ).bnd fun y => M.lift (cntF x y)
  | .callk f _ pm es, ρ => (evEs es ρ).bnd fun vs => Φ f (permV pm vs)
  | .dict mu es, ρ => (evEs es ρ).bnd fun vs => if (pairUp vs).all (fun p => keyB p.1) && decide ((pairUp vs).length ≤ 15) then mkDic mu false (dfill ([], []) (pairUp vs)) else M.stuck
  | .dnew mu t, _ => mkDic mu t ([], [])
  | .dzip mu a b, ρ => (evE a ρ).bnd fun x => (evE b ρ).bnd fun y => (M.lift (dzipF x y)).bnd fun d => mkDic mu true d
  | .lset a, ρ => (evE a ρ).bnd fun x => M.lift (lsetF x)
  | .sset a, ρ => (evE a ρ).bnd fun x => M.lift (ssetF x)
  | .mls a, ρ => (evE a ρ).bnd fun x => (M.lift fun s => seqOf s x).bnd fun xs => alloc (.lst xs)
  | .mop o a b, ρ => (evE a ρ).bnd fun x => (evE b ρ).bnd fun y => (M.lift (lopF o x y)).bnd fun xs => alloc (.lst xs)
  | .rgl k b, ρ => (evE b ρ).bnd fun y => (M.opt (intV y)).bnd fun j => mkRg k 0 j
  | .rgl2 k a b, ρ => (evE a ρ).bnd fun x => (evE b ρ).bnd fun y => (M.opt (intV x)).bnd fun i => (M.opt (intV y)).bnd fun j => mkRg k i j
  | .slc a lo hi, ρ => (evE a ρ).bnd fun x => (evO lo ρ).bnd fun l => (evO hi ρ).bnd fun h => M.lift (slcG x l h)
  | .lc mu elt tg it ifs own, ρ => (evIt it ρ).bnd fun w => fun s => match compGo w.2 (fun x => evTg tg x (wipe ρ (own.map (·.2)))) (evIf ifs) (fun ρ => (evE elt ρ).bnd fun y => M.ret [y]) w.1 s with
    | .ok ys s' => mkLst mu ys s'
    | _ => .stuck
  | .lc2 mu elt tg it ifs tg2 it2 ifs2 own own2, ρ => (evIt it ρ).bnd fun w => fun s => match compGo w.2 (fun x => evTg tg x (wipe ρ (own.map (·.2)))) (evIf ifs)
      (fun ρ => (evIt it2 ρ).bnd fun w2 => fun s => compGo w2.2 (fun x => evTg tg2 x (wipe ρ own2)) (evIf ifs2) (fun ρ => (evE elt ρ).bnd fun y => M.ret [y]) w2.1 s) w.1 s with
    | .ok ys s' => mkLst mu ys s'
    | _ => .stuck
  | .lamk k, _ => M.ret (.clo k)
  | .caught i cs es, ρ => match ρ[i]?.join with
    | some (.clo k) => caughtM cs (evNth es k ρ)
    | _ => M.stuck
  | .caughtL _ cs e, ρ => caughtM cs (evE e ρ)
/-- the k-th of some -/
def evNth : Es → Nat → Env → M PV
  | .nil, _, _ => M.stuck
  | .cons e _, 0, ρ => evE e ρ
  | .cons _ r, k + 1, ρ => evNth r k ρ
def evEs : Es → Env → M (List PV)
  | .nil, _ => M.ret []
  | .cons e r, ρ => (evE e ρ).bnd fun v => (evEs r ρ).bnd fun vs => M.ret (v :: vs)
/-- a slice's end -/
def evO : Es → Env → M (Option Int)
  | .nil, _ => M.ret none
  | .cons e _, ρ => (evE e ρ).bnd fun v => (M.opt (intV v)).bnd fun i => M.ret (some i)
/-- tests, all of them (at most one) -/
def evIf : Es → Env → M Bool
  | .nil, _ => M.ret true
  | .cons e _, ρ => (evE e ρ).bnd truthM
def evTg : Tg → PV → Env → M Env
  | .nm i, v, ρ => if decide (i < ρ.length) then M.ret (ρ.set i (some v)) else M.stuck
  | .tp ts, v, ρ => match v with
    | .tup xs => evTgs ts xs ρ
    | _ => M.stuck
  | .sb o i, v, ρ => (evE o ρ).bnd fun x => (evE i ρ).bnd fun y => M.liftS fun s => (setI x y v s).map fun s' => (ρ, s')
def evTgs : Tgs → List PV → Env → M Env
  | .nil, [], ρ => M.ret ρ
  | .cons t r, x :: xs, ρ => (evTg t x ρ).bnd fun ρ' => evTgs r xs ρ'
  | _, _, _ => M.stuck
def evIt : It → Env → M Walk
  | .val e, ρ => (evE e ρ).bnd fun v => M.lift fun s => (seqOf s v).map fun xs => (xs, watch s v)
  | .rng1 b, ρ => (evE b ρ).bnd fun y => (M.opt (intV y)).bnd fun j => if rngOk 0 j then M.ret (rngV 0 j, []) else M.stuck
  | .rng a b, ρ => (evE a ρ).bnd fun x => (evE b ρ).bnd fun y => (M.opt (intV x)).bnd fun i => (M.opt (intV y)).bnd fun j => if rngOk i j then M.ret (rngV i j, []) else M.stuck
  | .zip a b, ρ => (evE a ρ).bnd fun x => (evE b ρ).bnd fun y => M.lift fun s => (seqOf s x).bind fun xs => (seqOf s y).map fun ys => (zipV xs ys, watch s x ++ watch s y)
  | .enum a, ρ => (evE a ρ).bnd fun x => M.lift fun s => (seqOf s x).map fun xs => (enumV xs, watch s x)
end
def setAll : List Nat → List PV → Env → Env
  | i :: is, v :: vs, ρ => setAll is vs (ρ.set i (some v))
  | _, _, ρ => ρ
mutual
def exS : S → MS
  | .asg t e, ρ, s => match evE Φ e ρ s with
    | .ok v s1 => (match evTg Φ t v ρ s1 with
      | .ok ρ' s2 => .ok (.nx ρ') s2
      | _ => .stuck)
    | .exc x s1 => .exc x ρ s1
    | .stuck => .stuck
  | .par ix es, ρ, s => match evEs Φ es ρ s with
    | .ok vs s1 => if decide (vs.length = ix.length) then .ok (.nx (setAll ix vs ρ)) s1 else .stuck
    | .exc x s1 => .exc x ρ s1
    | .stuck => .stuck
  | .ex e, ρ, s => match evE Φ e ρ s with
    | .ok _ s1 => .ok (.nx ρ) s1
    | .exc x s1 => .exc x ρ s1
    | .stuck => .stuck
  | .ret e, ρ, s => match evE Φ e ρ s with
    | .ok v s1 => .ok (.rt v) s1
    | .exc x s1 => .exc x ρ s1
    | .stuck => .stuck
  | .retN, _, s => .ok (.rt .non) s
  | .iff c a b, ρ, s => match ((evE Φ c ρ).bnd truthM) s with
    | .ok true s1 => exSs a ρ s1
    | .ok false s1 => exSs b ρ s1
    | .exc x s1 => .exc x ρ s1
    | .stuck => .stuck
  | .forr t it b, ρ, s => match evIt Φ it ρ s with
    | .ok w s1 => forGo w.2 (fun x ρ => evTg Φ t x ρ) (exSs b) w.1 ρ s1
    | .exc x s1 => .exc x ρ s1
    | .stuck => .stuck
  | .whl n c b, ρ, s => whlGo (fun ρ => (evE Φ c ρ).bnd truthM) (exSs b) n ρ s
  | .pas, ρ, s => .ok (.nx ρ) s
  | .brk, ρ, s => .ok (.bk ρ) s
  | .cnt, ρ, s => .ok (.ct ρ) s
  | .rse c, ρ, s => .exc (.exn c [] []) ρ s
def exSs : Ss → MS
  | .nil, ρ, s => .ok (.nx ρ) s
  | .cons a r, ρ, s => match exS a ρ s with
    | .ok (.nx ρ1) s1 => exSs r ρ1 s1
    | x => x
end
end

/-! ### defs -/
structure Fn where
  ps : List Str
  N : List Str
  body : Ss
  /-- what it made in the store is locked and dropped at its end -/
  cut : Bool
mutual
/-- all its things of the store are ahead of n -/
def under (n : Nat) : PV → Bool
  | .tup xs => unders n xs
  | .lst xs => unders n xs
  | .scr xs => unders n xs
  | .dic _ ks vs => unders n ks && unders n vs
  | .exn _ _ vs => unders n vs
  | .ins _ _ vs => unders n vs
  | .ref k => decide (k < n)
  | _ => true
def unders (n : Nat) : List PV → Bool
  | [] => true
  | x :: xs => under n x && unders n xs
end
def peqO : SO → SO → Bool
  | .lst a, .lst b => peqs a b
  | .dic t a c, .dic u b d => (t == u) && (peqs a b && peqs c d)
  | .ins a n c, .ins b m d => decide (a = b) && (decide (n = m) && peqs c d)
  | _, _ => false
def underO (n : Nat) : SO → Bool
  | .lst xs => unders n xs
  | .dic _ ks vs => unders n ks && unders n vs
  | .ins _ _ vs => unders n vs
/-- a value with the store's things from n0 on locked -/
def lock (s : Store) (n0 : Nat) : Nat → PV → Option PV
  | 0, _ => none
  | k + 1, .tup xs => (xs.mapM (lock s n0 k)).map .tup
  | k + 1, .lst xs => (xs.mapM (lock s n0 k)).map .lst
  | k + 1, .dic t ks vs => if unders n0 ks then (vs.mapM (lock s n0 k)).map (.dic t ks) else none
  | k + 1, .ref n => if n < n0 then some (.ref n) else match s[n]? with
    | some (.lst xs) => (xs.mapM (lock s n0 k)).map .lst
    | some (.dic t ks vs) => if unders n0 ks then (vs.mapM (lock s n0 k)).map (.dic t ks) else none
    | _ => none
  | _ + 1, v => if under n0 v then some v else none
/-- what stood in the store is as it was, or names nothing new -/
def cutOk (s s' : Store) : Bool := decide (s.length ≤ s'.length) && (List.range s.length).all fun i => match s[i]?, s'[i]? with
  | some o, some o' => peqO o o' || underO s.length o'
  | _, _ => false
def fin (cut : Bool) (s : Store) (v : PV) (s' : Store) : R PV :=
  if cut then (match lock s' s.length 50 v with
    | some v' => if cutOk s s' then .ok v' (s'.take s.length) else .stuck
    | none => .stuck) else .ok v s'
def start (N : List Str) (vs : List PV) : Env := vs.map some ++ List.replicate (N.length - vs.length) none
def callB (d : Fn) (m : MS) (vs : List PV) : M PV := fun s => if decide (vs.length = d.ps.length) then (match m (start d.N vs) s with
  | .ok (.rt v) s' => fin d.cut s v s'
  | .ok (.nx _) s' => fin d.cut s .non s'
  | .exc x _ s' => .exc x s'
  | _ => .stuck) else .stuck
/-- what a program's defs do, n calls deep -/
def run (T : Str → Option Fn) : Nat → Str → List PV → M PV
  | 0, _, _ => M.stuck
  | n + 1, f, vs => match T f with
    | some d => callB d (exSs (run T n) d.body) vs
    | none => M.stuck
def tabT (es : List (Str × Fn)) : Str → Option Fn := fun f => es.lookup f
end Mini

set_option Elab.async false
set_option linter.all false
set_option maxRecDepth 100000
/-! MiniS: sorted(t), t a tuple of ints (by the road of the library's rule for a list). -/
namespace Mini
open PySem PyProof.Rows
section
variable {prog : Program} {w : World} {A : Around} {E : Value → Shared → Prop} {s : Shared}
theorem collect_tupI {l : Addr} {vs : List Value} {Q : List Value → Shared → Prop} (hl : s.heap.IsTuple l vs.toArray) (hz : vs.length ≤ sizeLine)
    (h : Q vs { s with heap := (s.heap.push (seqObj "list" #[] 0)).update s.heap.objs.size (Obj.mapSeq (· ++ vs.toArray)) }) : wpAny (model prog w) A (collect (.ref l)) Q E s := by
  obtain ⟨o, ho, hc, n, hd⟩ := id hl
  unfold collect
  refine wpAny_bind (wpAny_runValue (codeAny_builtin entry_proto_collect' ?_))
  show wpAny _ _ (do again (.builtin "list.__iadd__" ⟨[← newList [], .ref l], []⟩)) _ _ s
  refine wpAny_bind (wpAny_newList (wpAny_pure ⟨Code.quiet_builtin _ (by decide +kernel), codeAny_builtin entry_list_iadd' ?_⟩))
  show wpAny _ _ (Builtin.List.listExtendWith (.ref s.heap.objs.size) (.ref l) (.ref s.heap.objs.size)) _ _ { s with heap := s.heap.push (seqObj "list" #[] 0) }
  unfold Builtin.List.listExtendWith
  have ho' : (s.heap.push (seqObj "list" #[] 0)).get? l = some o := Heap.get?_push_of_some _ ho
  refine wpAny_bind (wpAny_typeOf (T := "tuple") ⟨o, ho', hc⟩ ?_)
  have ht : (Value.type "tuple" == Value.type "tuple") = true := by rfl
  rw [if_pos (by rw [ht]; simp)]
  refine wpAny_bind (listItems_at ho' hd ?_)
  refine wpAny_bind (listItems_at (xs := #[]) (n := 0) (Heap.get?_push_size _ rfl) rfl ?_)
  rw [if_neg (by simp)]
  refine wpAny_bind (listUpdate_at (xs := #[]) (n := 0) (Heap.get?_push_size _ rfl) rfl ?_ (Nat.zero_le _) (by show (#[] ++ vs.toArray).size ≤ sizeLine + 1; simp only [Array.size_append, List.size_toArray, List.length_nil]; omega))
  refine wpAny_pure ?_
  show wpAny (model prog w) A (do
      let o ← load s.heap.objs.size
      match o.data with
      | .seq xs _ => pure xs.toList
      | _ => unsupported "internal:collect") Q E { s with heap := (s.heap.push (seqObj "list" #[] 0)).update s.heap.objs.size (Obj.mapSeq (· ++ vs.toArray)) }
  refine wpAny_bind (wpAny_load (get?_update_seq (Heap.get?_push_size _ rfl) _) ?_)
  show wpAny _ _ (pure ((#[] : Array Value) ++ vs.toArray).toList) Q E _
  rw [show ((#[] : Array Value) ++ vs.toArray).toList = vs by simp]
  exact wpAny_pure h
theorem sorted_tupO {l : Addr} {vs : List Value} {ltv : Value → Value → Bool} {Q : Value → Shared → Prop} (O : SrtO.Swo ltv) (hl : s.heap.IsTuple l vs.toArray) (hz : vs.length ≤ sizeLine)
    (hS : 2 ≤ vs.length → ∀ (h₁ : Heap) (a : Addr), h₁.get? a = some (seqObj "list" vs.toArray 0) → (∀ b o, s.heap.get? b = some o → b ≠ a ∧ h₁.get? b = some o) → SrtO.SortableO prog w A.in1.in1 { s with heap := h₁ } a vs ltv)
    (h : ∀ out : List Value, SrtO.Srtd ltv out → SrtO.Stb ltv out vs → Q (.ref (s.heap.objs.size + 1)) { s with heap := sortedAll s.heap vs out.toArray }) :
    wpAny (model prog w) A (call (.builtin "sorted") [.ref l]) Q E s := by
  refine Calls.call_function_entry kind_sorted plain_sorted entry_sorted (args_sorted1 _) ?_
  unfold Builtin.«sorted»
  refine wpAny_bind (m := checkCount "sorted" 1 1 _) (wpAny_pure (wpAny_bind (collect_tupI hl hz (wpAny_bind (wpAny_newList ?_ hz)))))
  have size : ((s.heap.push (seqObj "list" #[] 0)).update s.heap.objs.size (Obj.mapSeq (· ++ vs.toArray))).objs.size = s.heap.objs.size + 1 := by
    rw [Heap.size_update, size_push']
  have here : (((s.heap.push (seqObj "list" #[] 0)).update s.heap.objs.size (Obj.mapSeq (· ++ vs.toArray))).push (seqObj "list" vs.toArray 0)).get? (s.heap.objs.size + 1) = some (seqObj "list" vs.toArray 0) := by
    rw [← size]; exact Heap.get?_push_size _ rfl
  have keep : ∀ b o, s.heap.get? b = some o → b ≠ s.heap.objs.size + 1 ∧ (((s.heap.push (seqObj "list" #[] 0)).update s.heap.objs.size (Obj.mapSeq (· ++ vs.toArray))).push (seqObj "list" vs.toArray 0)).get? b = some o := fun b o q => by
    have lt : b < s.heap.objs.size := Heap.lt_size q
    refine ⟨Nat.ne_of_lt (Nat.lt_succ_of_lt lt), Heap.get?_push_of_some _ ?_⟩
    rw [Heap.get?_update_ne _ _ _ _ (Nat.ne_of_lt lt)]
    exact Heap.get?_push_of_some _ q
  show wpAny _ _ _ _ _ { s with heap := ((s.heap.push (seqObj "list" #[] 0)).update s.heap.objs.size (Obj.mapSeq (· ++ vs.toArray))).push (seqObj "list" vs.toArray 0) }
  rw [size]
  refine wpAny_bind (wpAny_holding (wpAny_call_entry slot_list_sort ⟨_, here, rfl⟩ entry_list_sort (SrtO.list_sort_ord O here hz (fun h2 => hS h2 _ _ here keep) fun out hs hb => ⟨_, rfl, ?_⟩) (args_list_sort _)))
  exact wpAny_pure ⟨_, rfl, h out hs hb⟩
end
open L2 in
theorem cr_sortedTupI {X : Cx} : CallR X (.builtin "sorted") (fun vs H Q => ∃ (a : Addr) (ns : List Int), vs = [V.ref a] ∧ SqT X.K H a (ns.map V.int) ∧ ∀ (ns' : List Int) (p : Addr), ns'.Perm ns → ns'.Pairwise (· ≤ ·) → H p = none → Q (.ref p) (upd H p (.lst (ns'.map V.int)))) := by
  intro pins s σ H vs us Q I r ⟨a, ns, ev, hs, q⟩
  subst ev
  obtain ⟨its, rv, hl, hz⟩ := I.tuple hs
  rw [Vals.ref1 r]
  have hi := rv.ints
  refine sorted_tupO SrtO.swo_int (show s.heap.IsTuple a its.toArray from hl) (by rw [← rv.length]; exact hz) (fun h2 h1 b _ _ => SrtO.ints_sortable hi h2) fun out h1 h2 => ?_
  obtain ⟨k1, k2, k3⟩ := SrtO.ints_out hi h1 h2
  obtain ⟨ep, he⟩ := PyProof.Rows.sortedAll_at s.heap its out.toArray
  have len : ((out.map SrtO.iv).map V.int).length ≤ sizeLine := by
    rw [List.length_map] at hz
    rw [List.length_map, k2.length_eq]
    exact hz
  exact ⟨.ref _, upd H (s.heap.objs.size + 1) (.lst ((out.map SrtO.iv).map V.int)), I.laid (t' := s.toks) (fun _ _ => PyProof.Rows.sortedAll_old) (Nat.le_succ _) ⟨len, out, ep, vals_of_ints k1, he⟩, rfl, q _ _ k2 k3 (I.hok.fresh (Nat.le_succ _))⟩
end Mini


set_option Elab.async false
set_option linter.all false
set_option maxRecDepth 100000
set_option maxHeartbeats 4000000
/-! MiniT: tuple * int, any int. -/
namespace Mini
open PySem PySem.Spec PyProof.Rows L2
theorem tuple_mulS (l : Addr) (items : Array Value) (n : Nat) (dd : Option Addr) (sl : Array (Option Value)) (x : Int) (u : Tok) (c0 : (decide (x < -(2 ^ 63)) || decide (x ≥ 2 ^ 63)) = false) (c1 : (items.isEmpty || x == 1) = true) :
    Meets (Builtin.«tuple.__mul__» ⟨[.ref l, .int x u], []⟩) (fun _ R s => s.heap.get? l = some { cls := .type "tuple", dict := dd, data := .seq items n, slots := sl } ∧
      R (.ok (.ret (Value.ref l))) s) :=
  .of_wp fun prog w A R s h => by
    obtain ⟨hp, g, d, tk, os⟩ := s
    obtain ⟨hl, h⟩ := h
    have f1 := AutoSeq1.idx_int
    wp_walk using wpAny_loadPart' hl
    repeat (first
      | (refine wpAny_ite_false (decide_eq_false (by rw [c0]; exact Bool.false_ne_true)) ?_; wp_walk using wpAny_loadPart' hl)
      | (refine wpAny_ite_true (decide_eq_true c1) ?_; wp_walk using wpAny_loadPart' hl))
    exact ⟨_, rfl, h⟩
theorem tuple_mul0 (l : Addr) (items : Array Value) (n : Nat) (dd : Option Addr) (sl : Array (Option Value)) (x : Int) (u : Tok) (c0 : (decide (x < -(2 ^ 63)) || decide (x ≥ 2 ^ 63)) = false) (c1 : (items.isEmpty || x == 1) = false) (c2 : (decide (x ≤ 0) || items.isEmpty) = true) :
    Meets (Builtin.«tuple.__mul__» ⟨[.ref l, .int x u], []⟩) (fun _ R s => s.heap.get? l = some { cls := .type "tuple", dict := dd, data := .seq items n, slots := sl } ∧
      R (.ok (.ret (Value.ref s.heap.objs.size))) { s with heap := s.heap.push { cls := Value.type "tuple", data := Data.seq #[] }, toks := s.toks }) :=
  .of_wp fun prog w A R s h => by
    obtain ⟨hp, g, d, tk, os⟩ := s
    obtain ⟨hl, h⟩ := h
    have f1 := AutoSeq1.idx_int
    wp_walk using wpAny_loadPart' hl
    repeat (first
      | (refine wpAny_ite_false (decide_eq_false (by rw [c0]; exact Bool.false_ne_true)) ?_; wp_walk using wpAny_loadPart' hl)
      | (refine wpAny_ite_false (decide_eq_false (by rw [c1]; exact Bool.false_ne_true)) ?_; wp_walk using wpAny_loadPart' hl)
      | (refine wpAny_ite_true (decide_eq_true c2) ?_; wp_walk using wpAny_loadPart' hl))
    exact ⟨_, rfl, h⟩
/-- of one at most, or of nothing -/
def rRepL (K : PySem.W.Frag) : R2 := fun x y H Q => ∃ l k xs, x = .ref l ∧ y = .int k ∧ SqT K H l xs ∧ -(2 ^ 63) ≤ k ∧ k < 2 ^ 63 ∧ (if xs = [] ∨ k = 1 then Q (.ref l) H else k ≤ 0 ∧ ∀ p, H p = none → Q (.ref p) (upd H p (.tup [])))
theorem op_repL {X : Cx} : OpR X (binaryOp .Mult) (rRepL X.K) := by
  intro pins s σ H x y v u Q I rx ry h
  obtain ⟨l, k, xs, rfl, rfl, hT, h1, h2, q⟩ := h
  cases rx
  obtain ⟨t, rfl⟩ := ry
  obtain ⟨its, r, ⟨⟨cls, dd, data, sl⟩, ho, hc, n, hd⟩, hs⟩ := I.tuple hT
  simp only at hc hd
  subst hc hd
  have hle : its.length = xs.length := r.length.symm
  have hi : its.toArray.isEmpty = decide (xs = []) := by
    cases its with
    | nil => rw [List.eq_nil_of_length_eq_zero (show xs.length = 0 from hle.symm)]; rfl
    | cons a b =>
      have : xs ≠ [] := fun e => by rw [e] at hle; cases hle
      rw [decide_eq_false this]; rfl
  have c0 : (decide (k < -(2 ^ 63)) || decide (k ≥ 2 ^ 63)) = false := by
    rw [decide_eq_false (by omega), decide_eq_false (by omega)] <;> rfl
  by_cases hk : xs = [] ∨ k = 1
  · rw [if_pos hk] at q
    have c1 : (its.toArray.isEmpty || k == 1) = true := by
      rw [hi, Bool.or_eq_true_iff]
      exact hk.imp (fun z => decide_eq_true z) fun z => by rw [z]; rfl
    refine wpAny_binaryOp_repeat_ref (T := "tuple") (U := "int") (by decide) ⟨_, ho, rfl⟩ (fun s' => typeIs_int s' k t) noFill_tuple_mul F.fills_int_mul F.slot_int_rmul repeat_tuple F.slot_int_index.lookup
      (call_meets F.slot_int_rmul (typeIs_int s k t) F.entry_int_rmul (F.args_int_rmul_2 _ _) (int_rmul_tuple k t l its.toArray n dd sl)
        ⟨ho, rfl, ⟨_, ho, rfl⟩, call_meets F.slot_tuple_mul ⟨_, ho, rfl⟩ F.entry_tuple_mul (F.args_tuple_mul_2 _ _) (tuple_mulS l its.toArray n dd sl k t c0 c1) ⟨ho, ?_⟩⟩)
    exact ⟨.ref l, H, I, rfl, q⟩
  · rw [if_neg hk] at q
    obtain ⟨k1, k2⟩ := not_or.mp hk
    have c1 : (its.toArray.isEmpty || k == 1) = false := by
      rw [hi, decide_eq_false k1, Bool.false_or]
      exact beq_eq_false_iff_ne.mpr k2
    have c2 : (decide (k ≤ 0) || its.toArray.isEmpty) = true := by rw [decide_eq_true q.1]; rfl
    refine wpAny_binaryOp_repeat_ref (T := "tuple") (U := "int") (by decide) ⟨_, ho, rfl⟩ (fun s' => typeIs_int s' k t) noFill_tuple_mul F.fills_int_mul F.slot_int_rmul repeat_tuple F.slot_int_index.lookup
      (call_meets F.slot_int_rmul (typeIs_int s k t) F.entry_int_rmul (F.args_int_rmul_2 _ _) (int_rmul_tuple k t l its.toArray n dd sl)
        ⟨ho, rfl, ⟨_, ho, rfl⟩, call_meets F.slot_tuple_mul ⟨_, ho, rfl⟩ F.entry_tuple_mul (F.args_tuple_mul_2 _ _) (tuple_mul0 l its.toArray n dd sl k t c0 c1 c2) ⟨ho, ?_⟩⟩)
    exact ⟨.ref s.heap.objs.size, _, I.laid (t' := s.toks) (o := .tup []) (fun b ob q => Heap.get?_push_of_some _ q) (Nat.le_refl _) ⟨Nat.zero_le _, _, .nil, IsTup.new _ _⟩, rfl, q.2 _ (I.hok.fresh (Nat.le_refl _))⟩
end Mini

set_option Elab.async false
set_option linter.all false
set_option maxRecDepth 100000
/-! Mini2: how values lie in the abstract heap. -/
namespace Mini
open PySem L2

/-- a lambda without parameters: body, scope, name, the cells that it captured -/
structure LamD where
  params : Arguments
  body : Expr
  scope : Scope
  qual : Str
  cl : List (Str × Addr)
/-- its function, c': its code object -/
def LamO (d : LamD) (c' f : Addr) : HO := .ext fun h => ∃ pm ctv : Value, h.get? f = some (PySem.W.kla_obj "<lambda>" d.qual d.params d.body d.scope d.cl pm c' ctv)
/-- the frame's facts: the written part, the module's names -/
structure G where
  P : Program
  w : World
  K : PySem.W.Frag
  mg : Str → Option Value
  base : Heap
  /-- the code objects' tables, each with the name of what is made by it -/
  tabs : List (Addr × Str) := []
  /-- the lambdas of the law -/
  lam : Nat → Option LamD := fun _ => none

/-- where the store's things stand; lists that are being made, not yet to be named -/
structure Io where
  at_ : List Addr
  hid : List Addr
  /-- the code objects' tables, each with the name of what is made by it -/
  tabs : List (Addr × Str) := []
instance : Membership Addr Io := ⟨fun io a => a ∈ io.at_ ∨ a ∈ io.hid⟩
theorem Io.not_mem {io : Io} {a : Addr} : a ∉ io ↔ a ∉ io.at_ ∧ a ∉ io.hid := not_or
def Io.app (io : Io) (n : List Addr) : Io := ⟨io.at_ ++ n, io.hid, io.tabs⟩
/-- the module's own list -/
def KL (K : PySem.W.Frag) (a : Addr) (xs : List V) : Prop := ∃ (o : Obj) (its : Array Value) (n : Nat), K.lookup a = some o ∧ o.cls = .type "list" ∧ o.dict = none ∧ o.data = .seq its n ∧ its.size ≤ sizeLine ∧ Vals xs its.toList
def keyP : Key → PV
  | .inl i => .int i
  | .inr x => .str x
/-- an exception at rest: class, own dict -/
def ExO (cls : Value) (d : Option Addr) (a : Addr) : HO := .ext fun h => ∃ (oe : Obj) (vs : Array Value), h.get? a = some oe ∧ Zc cls d oe ∧ oe.data = .fields vs
mutual
/-- a value at x; io: where the store's things stand -/
inductive Rep (g : G) (io : Io) (H : Hp) : PV → V → Prop
  | non : Rep g io H .non .non
  | bl (b : Bool) : Rep g io H (.bl b) (.bl b)
  | int (i : Int) : Rep g io H (.int i) (.int i)
  | str (x : Str) : Rep g io H (.str x) (.str x)
  | ty (n : String) : Rep g io H (.ty n) (.ty n)
  | tup {ps : List PV} {a : Addr} {xs : List V} : H a = some (.tup xs) → Reps g io H ps xs → Rep g io H (.tup ps) (.ref a)
  | lst {ps : List PV} {a : Addr} {xs : List V} : a ∉ io → H a = some (.lst xs) → Reps g io H ps xs → Rep g io H (.lst ps) (.ref a)
  | scr {ps : List PV} {a : Addr} {xs : List V} : (a ∉ io ∧ Rd H a (.lst xs)) ∨ KL g.K a xs → Reps g io H ps xs → Rep g io H (.scr ps) (.ref a)
  | dicK {ks : List Key} {ps : List PV} {a : Addr} {xs : List V} : a ∉ io → H a = some (.dK (ks.zip xs)) → ks.length = xs.length → Reps g io H ps xs → Rep g io H (.dic false (ks.map keyP) ps) (.ref a)
  | dicT {ks : List (List Key)} {ps : List PV} {a : Addr} {xs : List V} : a ∉ io → H a = some (.dT (ks.zip xs)) → ks.length = xs.length → Reps g io H ps xs → Rep g io H (.dic true (ks.map fun k => .tup (k.map keyP)) ps) (.ref a)
  | ins {c : Str} {C dx : Addr} {ns : List Str} {ps : List PV} {a : Addr} {xs : List V} : a ∉ io → H a = some (.ins C dx (ns.zip xs)) → ns.length = xs.length → g.mg c = some (.ref C) → Reps g io H ps xs → Rep g io H (.ins c ns ps) (.ref a)
  | exn0 {c : Str} {C : Addr} {a : Addr} : a ∉ io → H a = some (ExO (.ref C) none a) → g.mg c = some (.ref C) → Rep g io H (.exn c [] []) (.ref a)
  | exn {c : Str} {C dx : Addr} {ns : List Str} {ps : List PV} {a : Addr} {xs : List V} : a ∉ io → dx ∉ io → H a = some (ExO (.ref C) (some dx) a) → H dx = some (.xd (ns.zip xs)) → ns.length = xs.length → g.mg c = some (.ref C) → Reps g io H ps xs → Rep g io H (.exn c ns ps) (.ref a)
  | ref {n : Nat} {a : Addr} : io.at_[n]? = some a → Rep g io H (.ref n) (.ref a)
  | glo {x : Str} {v : V} {u : Value} : g.mg x = some u → RelV v u → Rep g io H (.glo x) v
  | clo {k : Nat} {d : LamD} {a c' : Addr} : a ∉ io → g.lam k = some d → H a = some (LamO d c' a) → H c' = some (LamX.CodeO c' d.qual) → Rep g io H (.clo k) (.ref a)
inductive Reps (g : G) (io : Io) (H : Hp) : List PV → List V → Prop
  | nil : Reps g io H [] []
  | cons {p : PV} {ps : List PV} {x : V} {xs : List V} : Rep g io H p x → Reps g io H ps xs → Reps g io H (p :: ps) (x :: xs)
end

/-! ### growth -/
/-- no table of code objects -/
def NT (o : HO) : Prop := ∀ ps, o ≠ .tbl ps
theorem codeO_nt (c : Addr) (q : Str) : NT (LamX.CodeO c q) := fun ps z => by
  unfold LamX.CodeO at z
  cases z
theorem lamO_nt (d : LamD) (c' f : Addr) : NT (LamO d c' f) := fun ps z => by
  unfold LamO at z
  cases z
theorem exO_nt (cls : Value) (d : Option Addr) (a : Addr) : NT (ExO cls d a) := fun ps z => by
  unfold ExO at z
  cases z
/-- from io, H to io', H': what is not the store's stays as it is, new things of the store are new -/
structure Gr (io : Io) (H : Hp) (io' : Io) (H' : Hp) : Prop where
  ext : ∀ (a : Addr) (o : HO), a ∉ io.at_ → H a = some o → (n : NT o := by first | assumption | exact exO_nt _ _ _ | exact codeO_nt _ _ | exact lamO_nt _ _ _ | (intro _ z; cases z)) → H' a = some o
  tb : LamX.Tabs io.tabs H → LamX.Tabs io.tabs H'
  live : ∀ a, H' a = none → H a = none
  pre : ∃ new, io' = io.app new ∧ ∀ a ∈ new, H a = none
theorem Io.app_nil (io : Io) : io.app [] = io := by unfold Io.app; simp
theorem Io.app_app (io : Io) (a b : List Addr) : (io.app a).app b = io.app (a ++ b) := by unfold Io.app; simp
/-- neither tuple nor table nor code object -/
structure Plain (u : Option HO) : Prop where
  tup : ∀ xs, u ≠ some (.tup xs)
  tbl : ∀ ps, u ≠ some (.tbl ps)
  code : ∀ c q, u ≠ some (LamX.CodeO c q)
theorem codeO_of {c : Addr} {q : Str} : ∃ f, LamX.CodeO c q = .ext f := ⟨_, rfl⟩
theorem Plain.lst {xs : List V} : Plain (some (.lst xs)) := ⟨(fun _ z => by cases z), (fun _ z => by cases z), (fun c q z => by obtain ⟨f, e⟩ := codeO_of (c := c) (q := q); rw [e] at z; cases z)⟩
theorem Plain.dK {xs : List (Key × V)} : Plain (some (.dK xs)) := ⟨(fun _ z => by cases z), (fun _ z => by cases z), (fun c q z => by obtain ⟨f, e⟩ := codeO_of (c := c) (q := q); rw [e] at z; cases z)⟩
theorem Plain.dT {xs : List (List Key × V)} : Plain (some (.dT xs)) := ⟨(fun _ z => by cases z), (fun _ z => by cases z), (fun c q z => by obtain ⟨f, e⟩ := codeO_of (c := c) (q := q); rw [e] at z; cases z)⟩
theorem Plain.ins {C dx : Addr} {fs : List (Str × V)} : Plain (some (.ins C dx fs)) := ⟨(fun _ z => by cases z), (fun _ z => by cases z), (fun c q z => by obtain ⟨f, e⟩ := codeO_of (c := c) (q := q); rw [e] at z; cases z)⟩
theorem Plain.none : Plain none := ⟨(fun _ z => by cases z), (fun _ z => by cases z), (fun _ _ z => by cases z)⟩
theorem tabs_upd {H : Hp} {p : Addr} {o : HO} (n : Plain (H p)) {T : List (Addr × Str)} (t : LamX.Tabs T H) : LamX.Tabs T (upd H p o) := fun q hq => by
  obtain ⟨ps, h1, h2, h3⟩ := t q hq
  have ne : q.1 ≠ p := fun z => n.tbl ps (by rw [← z]; exact h1)
  refine ⟨ps, by rw [upd_ne ne]; exact h1, h2, fun pos cv hc => ?_⟩
  obtain ⟨c, e1, e2⟩ := h3 pos cv hc
  have nc : c ≠ p := fun z => n.code c q.2 (by rw [← z]; exact e2)
  exact ⟨c, e1, by rw [upd_ne nc]; exact e2⟩
theorem Gr.refl (io : Io) (H : Hp) : Gr io H io H := ⟨fun _ _ _ h _ => h, fun h => h, fun _ h => h, [], (Io.app_nil io).symm, fun _ h => by cases h⟩
theorem Gr.trans {io io1 io2 : Io} {H H1 H2 : Hp} (a : Gr io H io1 H1) (b : Gr io1 H1 io2 H2) : Gr io H io2 H2 := by
  obtain ⟨n1, e1, h1⟩ := a.pre
  obtain ⟨n2, e2, h2⟩ := b.pre
  refine ⟨fun c o hc ho nt => b.ext c o ?_ (a.ext c o hc ho nt) nt, fun h => (by have z := b.tb; rw [e1] at z; exact z (a.tb h)), fun c hc => a.live c (b.live c hc), n1 ++ n2, by rw [e2, e1, Io.app_app], fun c hc => ?_⟩
  · rw [e1]
    show c ∉ io.at_ ++ n1
    rw [List.mem_append]
    rintro (z | z)
    · exact hc z
    · rw [h1 c z] at ho; cases ho
  · rcases List.mem_append.mp hc with z | z
    · exact h1 c z
    · exact a.live c (h2 c z)
theorem Gr.new {io : Io} {H : Hp} {p : Addr} {o : HO} (h : H p = none) : Gr io H io (upd H p o) :=
  ⟨fun a u _ e _ => by rw [upd_ne (ne_of_none e h)]; exact e, fun t => t.ext fun b u e => by rw [upd_ne (ne_of_none e h)]; exact e, fun a e => by
    by_cases q : a = p
    · rw [q]; exact h
    · rw [upd_ne q] at e; exact e, [], (Io.app_nil io).symm, fun _ h => by cases h⟩
/-- a new thing of the store -/
theorem Gr.newS {io : Io} {H : Hp} {p : Addr} {o : HO} (h : H p = none) : Gr io H (io.app [p]) (upd H p o) :=
  ⟨fun a u q e n => (Gr.new (io := io) (o := o) h).ext a u q e n, (Gr.new (io := io) (o := o) h).tb, (Gr.new (io := io) (o := o) h).live, [p], rfl, fun a ha => by rw [List.mem_singleton.mp ha]; exact h⟩
/-- a thing of the store is changed -/
theorem Gr.set {io : Io} {H : Hp} {p : Addr} {o : HO} (h : p ∈ io.at_) (n : Plain (H p)) : Gr io H io (upd H p o) :=
  ⟨fun a u q e _ => by
    have : a ≠ p := fun z => q (z ▸ h)
    rw [upd_ne this]; exact e, fun t => tabs_upd n t, fun a e => by
    by_cases q : a = p
    · subst q; rw [upd_same] at e; cases e
    · rw [upd_ne q] at e; exact e, [], (Io.app_nil io).symm, fun _ h => by cases h⟩
theorem Gr.hid {io io' : Io} {H H' : Hp} (r : Gr io H io' H') : io'.hid = io.hid := by
  obtain ⟨n, e, _⟩ := r.pre
  rw [e]; rfl
theorem Gr.outS {io io' : Io} {H H' : Hp} (r : Gr io H io' H') {a : Addr} {o : HO} (ha : a ∉ io.at_) (h : H a = some o) : a ∉ io'.at_ := by
  obtain ⟨n, e, hn⟩ := r.pre
  rw [e]
  show a ∉ io.at_ ++ n
  rw [List.mem_append]
  rintro (z | z)
  · exact ha z
  · rw [hn a z] at h; cases h
theorem Gr.out {io io' : Io} {H H' : Hp} (r : Gr io H io' H') {a : Addr} {o : HO} (ha : a ∉ io) (h : H a = some o) : a ∉ io' := by
  obtain ⟨h1, h2⟩ := Io.not_mem.mp ha
  exact Io.not_mem.mpr ⟨r.outS h1 h, by rw [r.hid]; exact h2⟩
theorem Gr.extM {io io' : Io} {H H' : Hp} (r : Gr io H io' H') {a : Addr} {o : HO} (ha : a ∉ io) (h : H a = some o) (n : NT o := by first | assumption | exact exO_nt _ _ _ | exact codeO_nt _ _ | exact lamO_nt _ _ _ | (intro _ z; cases z)) : H' a = some o := r.ext a o (Io.not_mem.mp ha).1 h n
theorem Gr.rd {io io' : Io} {H H' : Hp} (r : Gr io H io' H') {a : Addr} {u : HO} (ha : a ∉ io) (h : Rd H a u) (n : NT u := by first | assumption | exact exO_nt _ _ _ | exact codeO_nt _ _ | exact lamO_nt _ _ _ | (intro _ z; cases z)) : a ∉ io' ∧ Rd H' a u := by
  rcases h with h | ⟨o, h⟩
  · exact ⟨r.out ha h, .inl (r.extM ha h)⟩
  · exact ⟨r.out ha h, .inr ⟨o, r.extM ha h⟩⟩
theorem Gr.at {io io' : Io} {H H' : Hp} (r : Gr io H io' H') {n : Nat} {a : Addr} (h : io.at_[n]? = some a) : io'.at_[n]? = some a := by
  obtain ⟨k, e, _⟩ := r.pre
  rw [e]
  show (io.at_ ++ k)[n]? = some a
  rw [List.getElem?_append_left (List.getElem?_eq_some_iff.mp h).1]; exact h
/-- the store's things are lists, dicts, instances -/
def Sto (io : Io) (H : Hp) : Prop := ∀ a ∈ io.at_, (∃ xs, H a = some (.lst xs)) ∨ (∃ kvs, H a = some (.dK kvs)) ∨ (∃ kvs, H a = some (.dT kvs)) ∨ ∃ C dx fs, H a = some (.ins C dx fs)
theorem Sto.tup {io : Io} {H : Hp} (s : Sto io H) {a : Addr} {xs : List V} (h : H a = some (.tup xs)) : a ∉ io.at_ := fun z => by
  rcases s a z with ⟨_, e⟩ | ⟨_, e⟩ | ⟨_, e⟩ | ⟨_, _, _, e⟩ <;> (rw [h] at e; cases e)
theorem Sto.frz {io : Io} {H : Hp} (s : Sto io H) {a : Addr} {o : Obj} {u : HO} (h : H a = some (.frz o u)) : a ∉ io.at_ := fun z => by
  rcases s a z with ⟨_, e⟩ | ⟨_, e⟩ | ⟨_, e⟩ | ⟨_, _, _, e⟩ <;> (rw [h] at e; cases e)
theorem Sto.plain {io : Io} {H : Hp} (s : Sto io H) {a : Addr} (h : a ∈ io.at_) : Plain (H a) := by
  rcases s a h with ⟨_, e⟩ | ⟨_, e⟩ | ⟨_, e⟩ | ⟨_, _, _, e⟩ <;> rw [e]
  · exact .lst
  · exact .dK
  · exact .dT
  · exact .ins
theorem Gr.sqT {io io' : Io} {H H' : Hp} {K : PySem.W.Frag} (r : Gr io H io' H') (s : Sto io H) {a : Addr} {xs : List V} (h : SqT K H a xs) : SqT K H' a xs := by
  rcases h with (h | ⟨o, h⟩) | h
  · exact .inl (.inl (r.ext _ _ (s.tup h) h))
  · exact .inl (.inr ⟨o, r.ext _ _ (s.frz h) h⟩)
  · exact .inr h
/-- what is moved with its readings -/
structure Mv (g : G) (io : Io) (H : Hp) (io' : Io) (H' : Hp) : Prop where
  ext : ∀ (a : Addr) (o : HO), a ∉ io → H a = some o → (n : NT o := by first | assumption | exact exO_nt _ _ _ | exact codeO_nt _ _ | exact lamO_nt _ _ _ | (intro _ z; cases z)) → a ∉ io' ∧ H' a = some o
  at_ : ∀ (n : Nat) (a : Addr), io.at_[n]? = some a → io'.at_[n]? = some a
  tup : ∀ (a : Addr) (xs : List V), H a = some (.tup xs) → H' a = some (.tup xs)
  code : ∀ (a : Addr) (q : Str), H a = some (LamX.CodeO a q) → H' a = some (LamX.CodeO a q)
theorem Mv.rd {g : G} {io io' : Io} {H H' : Hp} (r : Mv g io H io' H') {a : Addr} {u : HO} (ha : a ∉ io) (h : Rd H a u) (n : NT u := by first | assumption | exact exO_nt _ _ _ | exact codeO_nt _ _ | exact lamO_nt _ _ _ | (intro _ z; cases z)) : a ∉ io' ∧ Rd H' a u := by
  rcases h with h | ⟨o, h⟩
  · exact ⟨(r.ext _ _ ha h).1, .inl (r.ext _ _ ha h).2⟩
  · exact ⟨(r.ext _ _ ha h).1, .inr ⟨o, (r.ext _ _ ha h).2⟩⟩
mutual
theorem Rep.mv {g : G} {io io' : Io} {H H' : Hp} (r : Mv g io H io' H') : ∀ {p : PV} {x : V}, Rep g io H p x → Rep g io' H' p x
  | _, _, .non => .non
  | _, _, .bl b => .bl b
  | _, _, .int b => .int b
  | _, _, .str b => .str b
  | _, _, .ty b => .ty b
  | _, _, .tup h q => .tup (r.tup _ _ h) (Reps.mv r q)
  | _, _, .lst n h q => .lst (r.ext _ _ n h).1 (r.ext _ _ n h).2 (Reps.mv r q)
  | _, _, .scr h q => .scr (h.imp (fun z => r.rd z.1 z.2) id) (Reps.mv r q)
  | _, _, .dicK n h l q => .dicK (r.ext _ _ n h).1 (r.ext _ _ n h).2 l (Reps.mv r q)
  | _, _, .dicT n h l q => .dicT (r.ext _ _ n h).1 (r.ext _ _ n h).2 l (Reps.mv r q)
  | _, _, .ins n h l c q => .ins (r.ext _ _ n h).1 (r.ext _ _ n h).2 l c (Reps.mv r q)
  | _, _, .exn0 n h c => .exn0 (r.ext _ _ n h).1 (r.ext _ _ n h).2 c
  | _, _, .exn n n2 h h2 l c q => .exn (r.ext _ _ n h).1 (r.ext _ _ n2 h2).1 (r.ext _ _ n h).2 (r.ext _ _ n2 h2).2 l c (Reps.mv r q)
  | _, _, .ref h => .ref (r.at_ _ _ h)
  | _, _, .glo h q => .glo h q
  | _, _, .clo n l h h2 => .clo (r.ext _ _ n h).1 l (r.ext _ _ n h).2 (r.code _ _ h2)
theorem Reps.mv {g : G} {io io' : Io} {H H' : Hp} (r : Mv g io H io' H') : ∀ {ps : List PV} {xs : List V}, Reps g io H ps xs → Reps g io' H' ps xs
  | _, _, .nil => .nil
  | _, _, .cons h q => .cons (Rep.mv r h) (Reps.mv r q)
end
theorem Gr.mv {g : G} {io io' : Io} {H H' : Hp} (r : Gr io H io' H') (s : Sto io H) : Mv g io H io' H' :=
  ⟨fun a o n h nt => ⟨r.out n h, r.extM n h nt⟩, fun n a h => r.at h, fun a xs h => r.ext _ _ (s.tup h) h, fun a q h => r.ext _ _ (fun z => (s.plain z).code a q h) h⟩
theorem Rep.grow {g : G} {io io' : Io} {H H' : Hp} (r : Gr io H io' H') (s : Sto io H) {p : PV} {x : V} (h : Rep g io H p x) : Rep g io' H' p x := h.mv (r.mv s)
theorem Reps.grow {g : G} {io io' : Io} {H H' : Hp} (r : Gr io H io' H') (s : Sto io H) {ps : List PV} {xs : List V} (h : Reps g io H ps xs) : Reps g io' H' ps xs := h.mv (r.mv s)
theorem Reps.length {g : G} {io : Io} {H : Hp} : ∀ {ps : List PV} {xs : List V}, Reps g io H ps xs → ps.length = xs.length
  | _, _, .nil => rfl
  | _, _, .cons _ q => congrArg (· + 1) q.length
theorem Reps.get {g : G} {io : Io} {H : Hp} : ∀ {ps : List PV} {xs : List V}, Reps g io H ps xs → ∀ {i : Nat} {p : PV}, ps[i]? = some p → ∃ x, xs[i]? = some x ∧ Rep g io H p x
  | _, _, .nil, i, p, h => by simp at h
  | _, _, .cons h q, 0, p, e => by simp at e; subst e; exact ⟨_, rfl, h⟩
  | _, _, .cons h q, i + 1, p, e => by
    obtain ⟨x, h1, h2⟩ := q.get (i := i) (p := p) (by simpa using e)
    exact ⟨x, by simpa using h1, h2⟩
theorem Reps.getV {g : G} {io : Io} {H : Hp} {ps : List PV} {xs : List V} (r : Reps g io H ps xs) {i : Nat} {x : V} (h : xs[i]? = some x) : ∃ p, ps[i]? = some p ∧ Rep g io H p x := by
  have hi : i < ps.length := by rw [r.length]; exact (List.getElem?_eq_some_iff.mp h).1
  obtain ⟨y, h1, h2⟩ := r.get (List.getElem?_eq_getElem hi)
  rw [h] at h1; cases h1
  exact ⟨_, List.getElem?_eq_getElem hi, h2⟩
theorem Reps.append {g : G} {io : Io} {H : Hp} : ∀ {ps qs : List PV} {xs ys : List V}, Reps g io H ps xs → Reps g io H qs ys → Reps g io H (ps ++ qs) (xs ++ ys)
  | _, _, _, _, .nil, q => q
  | _, _, _, _, .cons h r, q => .cons h (r.append q)
theorem Reps.take {g : G} {io : Io} {H : Hp} : ∀ {ps : List PV} {xs : List V} (n : Nat), Reps g io H ps xs → Reps g io H (ps.take n) (xs.take n)
  | _, _, 0, _ => .nil
  | _, _, _ + 1, .nil => .nil
  | _, _, n + 1, .cons h r => .cons h (r.take n)
theorem Reps.drop {g : G} {io : Io} {H : Hp} : ∀ {ps : List PV} {xs : List V} (n : Nat), Reps g io H ps xs → Reps g io H (ps.drop n) (xs.drop n)
  | _, _, 0, r => r
  | _, _, _ + 1, .nil => .nil
  | _, _, n + 1, .cons _ r => r.drop n
theorem Reps.set {g : G} {io : Io} {H : Hp} {p : PV} {x : V} (q : Rep g io H p x) : ∀ {ps : List PV} {xs : List V} (n : Nat), Reps g io H ps xs → Reps g io H (ps.set n p) (xs.set n x)
  | _, _, _, .nil => .nil
  | _, _, 0, .cons _ r => .cons q r
  | _, _, n + 1, .cons h r => .cons h (r.set q n)
theorem Reps.eraseIdx {g : G} {io : Io} {H : Hp} : ∀ {ps : List PV} {xs : List V} (n : Nat), Reps g io H ps xs → Reps g io H (ps.eraseIdx n) (xs.eraseIdx n)
  | _, _, _, .nil => .nil
  | _, _, 0, .cons _ r => r
  | _, _, n + 1, .cons h r => .cons h (r.eraseIdx n)
theorem Reps.rep {g : G} {io : Io} {H : Hp} {ps : List PV} {xs : List V} (r : Reps g io H ps xs) : ∀ n : Nat, Reps g io H (Mini.rep n ps) ((List.replicate n xs).flatten)
  | 0 => .nil
  | n + 1 => by
    show Reps g io H ((ps :: List.replicate n ps).flatten) ((xs :: List.replicate n xs).flatten)
    rw [List.flatten_cons, List.flatten_cons]
    exact r.append (r.rep n)
theorem Reps.reverse {g : G} {io : Io} {H : Hp} {ps : List PV} {xs : List V} (r : Reps g io H ps xs) : Reps g io H ps.reverse xs.reverse := by
  induction r using Reps.rec (motive_1 := fun _ _ _ => True) <;> first | trivial | skip
  · exact .nil
  · rename_i ih
    rw [List.reverse_cons, List.reverse_cons]
    exact ih.append (.cons (by assumption) .nil)

/-! ### the store, the names -/
inductive ORep (g : G) (io : Io) (H : Hp) (a : Addr) : SO → Prop
  | lst {ps : List PV} {xs : List V} : H a = some (.lst xs) → Reps g io H ps xs → ORep g io H a (.lst ps)
  | dicK {ks : List Key} {ps : List PV} {xs : List V} : H a = some (.dK (ks.zip xs)) → ks.length = xs.length → Reps g io H ps xs → ORep g io H a (.dic false (ks.map keyP) ps)
  | dicT {ks : List (List Key)} {ps : List PV} {xs : List V} : H a = some (.dT (ks.zip xs)) → ks.length = xs.length → Reps g io H ps xs → ORep g io H a (.dic true (ks.map fun k => .tup (k.map keyP)) ps)
  | ins {c : Str} {C dx : Addr} {ns : List Str} {ps : List PV} {xs : List V} : H a = some (.ins C dx (ns.zip xs)) → ns.length = xs.length → g.mg c = some (.ref C) → Reps g io H ps xs → ORep g io H a (.ins c ns ps)
structure SRp (g : G) (io : Io) (H : Hp) (s : Store) : Prop where
  len : io.at_.length = s.length
  nd : io.at_.Nodup
  hl : ∀ a ∈ io.hid, H a ≠ none
  tab : LamX.Tabs io.tabs H ∧ io.tabs = g.tabs
  at_ : ∀ (n : Nat) (a : Addr) (o : SO), io.at_[n]? = some a → s[n]? = some o → ORep g io H a o
theorem ORep.sto {g : G} {io : Io} {H : Hp} {a : Addr} {o : SO} (h : ORep g io H a o) : (∃ xs, H a = some (.lst xs)) ∨ (∃ kvs, H a = some (.dK kvs)) ∨ (∃ kvs, H a = some (.dT kvs)) ∨ ∃ C dx fs, H a = some (.ins C dx fs) := by
  cases h with
  | lst h _ => exact .inl ⟨_, h⟩
  | dicK h _ _ => exact .inr (.inl ⟨_, h⟩)
  | dicT h _ _ => exact .inr (.inr (.inl ⟨_, h⟩))
  | ins h _ _ _ => exact .inr (.inr (.inr ⟨_, _, _, h⟩))
theorem SRp.sto {g : G} {io : Io} {H : Hp} {s : Store} (r : SRp g io H s) : Sto io H := fun a ha => by
  obtain ⟨n, hn⟩ := List.getElem?_of_mem ha
  have hs : n < s.length := by rw [← r.len]; exact (List.getElem?_eq_some_iff.mp hn).1
  exact (r.at_ n a _ hn (List.getElem?_eq_getElem hs)).sto
theorem SRp.find {g : G} {io : Io} {H : Hp} {s : Store} (r : SRp g io H s) {n : Nat} {a : Addr} (h : io.at_[n]? = some a) : ∃ o, s[n]? = some o ∧ ORep g io H a o := by
  have hs : n < s.length := by rw [← r.len]; exact (List.getElem?_eq_some_iff.mp h).1
  exact ⟨_, List.getElem?_eq_getElem hs, r.at_ n a _ h (List.getElem?_eq_getElem hs)⟩
structure ERp (g : G) (io : Io) (H : Hp) (ρ : Env) (σ : St) : Prop where
  len : ρ.length = σ.length
  at_ : ∀ (i : Nat) (p : PV), ρ[i]? = some (some p) → ∃ x, σ[i]? = some (some x) ∧ Rep g io H p x
theorem ERp.grow {g : G} {io io' : Io} {H H' : Hp} {ρ : Env} {σ : St} (e : ERp g io H ρ σ) (r : Gr io H io' H') (s : Sto io H) : ERp g io' H' ρ σ :=
  ⟨e.len, fun i p h => let ⟨x, h1, h2⟩ := e.at_ i p h; ⟨x, h1, h2.grow r s⟩⟩
theorem ERp.set {g : G} {io : Io} {H : Hp} {ρ : Env} {σ : St} (e : ERp g io H ρ σ) {p : PV} {x : V} (i : Nat) (h : Rep g io H p x) : ERp g io H (ρ.set i (some p)) (σ.set i (some x)) := by
  refine ⟨by rw [List.length_set, List.length_set]; exact e.len, fun j q hq => ?_⟩
  by_cases hij : i = j
  · subst hij
    by_cases hl : i < ρ.length
    · rw [List.getElem?_set_self hl] at hq
      cases hq
      rw [List.getElem?_set_self (by rw [← e.len]; exact hl)]
      exact ⟨x, rfl, h⟩
    · rw [List.getElem?_eq_none (by rw [List.length_set]; omega)] at hq
      cases hq
  · rw [List.getElem?_set_ne hij] at hq
    rw [List.getElem?_set_ne hij]
    exact e.at_ j q hq
theorem ERp.wipe {g : G} {io : Io} {H : Hp} {ρ : Env} {σ : St} (e : ERp g io H ρ σ) : ∀ vs : List Nat, ERp g io H (Mini.wipe ρ vs) (L2.wipe σ vs)
  | [] => e
  | v :: vs => by
    have ih := e.wipe vs
    refine ⟨by show ((Mini.wipe ρ vs).set v none).length = ((L2.wipe σ vs).set v none).length; rw [List.length_set, List.length_set]; exact ih.len, fun j q hq => ?_⟩
    have hq : ((Mini.wipe ρ vs).set v none)[j]? = some (some q) := hq
    show ∃ x, ((L2.wipe σ vs).set v none)[j]? = some (some x) ∧ _
    by_cases hv : v = j
    · subst hv
      by_cases hl : v < (Mini.wipe ρ vs).length
      · rw [List.getElem?_set_self hl] at hq; cases hq
      · rw [List.getElem?_eq_none (by rw [List.length_set]; omega)] at hq; cases hq
    · rw [List.getElem?_set_ne hv] at hq
      rw [List.getElem?_set_ne hv]
      exact ih.at_ j q hq
/-- the store grows with what is beside it unchanged -/
theorem SRp.grow {g : G} {io : Io} {H H' : Hp} {s : Store} (r : SRp g io H s) (q : Gr io H io H') (h : ∀ a ∈ io.at_, H' a = H a) : SRp g io H' s :=
  ⟨r.len, r.nd, fun a ha z => r.hl a ha (q.live a z), ⟨q.tb r.tab.1, r.tab.2⟩, fun n a o h1 h2 => by
    have e := h a (List.mem_of_getElem? h1)
    cases r.at_ n a o h1 h2 with
    | lst z w => exact .lst (e.trans z) (w.grow q r.sto)
    | dicK z l w => exact .dicK (e.trans z) l (w.grow q r.sto)
    | dicT z l w => exact .dicT (e.trans z) l (w.grow q r.sto)
    | ins z l c w => exact .ins (e.trans z) l c (w.grow q r.sto)⟩
/-- something new that is not the store's -/
theorem SRp.new {g : G} {io : Io} {H : Hp} {s : Store} (r : SRp g io H s) {p : Addr} {o : HO} (h : H p = none) : SRp g io (upd H p o) s :=
  r.grow (Gr.new h) fun a ha => by
    have : a ≠ p := fun z => by
      subst z
      rcases r.sto a ha with ⟨_, e⟩ | ⟨_, e⟩ | ⟨_, e⟩ | ⟨_, _, _, e⟩ <;> (rw [h] at e; cases e)
    exact upd_ne this
/-- a new thing of the store -/
theorem SRp.newS {g : G} {io : Io} {H : Hp} {s : Store} (r : SRp g io H s) {p : Addr} {o : SO} {u : HO} (h : H p = none) (ho : ORep g (io.app [p]) (upd H p u) p o) : SRp g (io.app [p]) (upd H p u) (s ++ [o]) := by
  have ne : ∀ a ∈ io.at_, a ≠ p := fun a ha z => by
    subst z
    rcases r.sto a ha with ⟨_, e⟩ | ⟨_, e⟩ | ⟨_, e⟩ | ⟨_, _, _, e⟩ <;> (rw [h] at e; cases e)
  have h9 : (io.app [p]).at_ = io.at_ ++ [p] := rfl
  refine ⟨by rw [h9, List.length_append, List.length_append, r.len]; rfl, ?_, fun a ha z => r.hl a ha ((Gr.newS (io := io) (o := u) h).live a z), ⟨(Gr.newS (io := io) (o := u) h).tb r.tab.1, r.tab.2⟩, fun n a o' h1 h2 => ?_⟩
  · rw [h9, List.nodup_append]
    exact ⟨r.nd, by simp, fun a ha b hb => by rw [List.mem_singleton.mp hb]; exact ne a ha⟩
  · rw [h9] at h1
    by_cases hn : n < io.at_.length
    · rw [List.getElem?_append_left hn] at h1
      rw [List.getElem?_append_left (by rw [← r.len]; exact hn)] at h2
      have e : upd H p u a = H a := upd_ne (ne a (List.mem_of_getElem? h1))
      have q : Gr io H (io.app [p]) (upd H p u) := Gr.newS h
      cases r.at_ n a o' h1 h2 with
      | lst z w => exact .lst (e.trans z) (w.grow q r.sto)
      | dicK z l w => exact .dicK (e.trans z) l (w.grow q r.sto)
      | dicT z l w => exact .dicT (e.trans z) l (w.grow q r.sto)
      | ins z l c w => exact .ins (e.trans z) l c (w.grow q r.sto)
    · have hl := (List.getElem?_eq_some_iff.mp h1).1
      rw [List.length_append] at hl
      have en : n = io.at_.length := by simp at hl; omega
      subst en
      rw [List.getElem?_append_right (Nat.le_refl _), Nat.sub_self] at h1
      rw [List.getElem?_append_right (by rw [r.len]; exact Nat.le_refl _), r.len, Nat.sub_self] at h2
      cases h1
      cases h2
      exact ho
/-- a thing of the store is changed -/
theorem SRp.set {g : G} {io : Io} {H : Hp} {s : Store} (r : SRp g io H s) {n : Nat} {p : Addr} {o : SO} {u : HO} (h : io.at_[n]? = some p) (ho : ORep g io (upd H p u) p o) : SRp g io (upd H p u) (s.set n o) := by
  have hp := List.mem_of_getElem? h
  have pl := r.sto.plain hp
  refine ⟨by rw [List.length_set]; exact r.len, r.nd, fun a ha z => r.hl a ha ((Gr.set (o := u) hp pl).live a z), ⟨(Gr.set (o := u) hp pl).tb r.tab.1, r.tab.2⟩, fun m a o' h1 h2 => ?_⟩
  have hp := List.mem_of_getElem? h
  by_cases hm : n = m
  · subst hm
    rw [h] at h1; cases h1
    have hl : n < s.length := by rw [← r.len]; exact (List.getElem?_eq_some_iff.mp h).1
    rw [List.getElem?_set_self hl] at h2
    cases h2
    exact ho
  · rw [List.getElem?_set_ne hm] at h2
    have hap : a ≠ p := fun z => by
      subst z
      obtain ⟨i1, e1⟩ := List.getElem?_eq_some_iff.mp h
      obtain ⟨i2, e2⟩ := List.getElem?_eq_some_iff.mp h1
      exact hm ((List.getElem_inj r.nd).mp (e1.trans e2.symm))
    have e : upd H p u a = H a := upd_ne hap
    have q : Gr io H io (upd H p u) := Gr.set hp pl
    cases r.at_ m a o' h1 h2 with
    | lst z w => exact .lst (e.trans z) (w.grow q r.sto)
    | dicK z l w => exact .dicK (e.trans z) l (w.grow q r.sto)
    | dicT z l w => exact .dicT (e.trans z) l (w.grow q r.sto)
    | ins z l c w => exact .ins (e.trans z) l c (w.grow q r.sto)

/-! ### a list that is being made -/
def Io.hide (io : Io) (D : Addr) : Io := ⟨io.at_, D :: io.hid, io.tabs⟩
theorem Io.not_hide {io : Io} {D a : Addr} : a ∉ io.hide D ↔ a ∉ io ∧ a ≠ D := by
  rw [Io.not_mem, Io.not_mem]
  show (a ∉ io.at_ ∧ a ∉ D :: io.hid) ↔ _
  rw [List.mem_cons]
  constructor
  · rintro ⟨h1, h2⟩
    exact ⟨⟨h1, fun z => h2 (.inr z)⟩, fun z => h2 (.inl z)⟩
  · rintro ⟨⟨h1, h2⟩, h3⟩
    exact ⟨h1, fun z => z.elim h3 h2⟩
theorem SRp.fresh {g : G} {io : Io} {H : Hp} {s : Store} (r : SRp g io H s) {p : Addr} (h : H p = none) : p ∉ io := by
  rintro (z | z)
  · rcases r.sto p z with ⟨_, e⟩ | ⟨_, e⟩ | ⟨_, e⟩ | ⟨_, _, _, e⟩ <;> (rw [h] at e; cases e)
  · exact r.hl p z h
theorem tup_upd {H : Hp} {D : Addr} {o : HO} {a : Addr} {xs : List V} (hD : ∀ xs, H D ≠ some (.tup xs)) (h : H a = some (.tup xs)) : upd H D o a = some (.tup xs) := by
  rw [upd_ne (fun e => hD _ (e ▸ h))]; exact h
theorem mv_hide {g : G} {io : Io} {H : Hp} {D : Addr} {o : HO} (h : H D = none) : Mv g io H (io.hide D) (upd H D o) :=
  ⟨fun a u n e _ => by
    have ne : a ≠ D := ne_of_none e h
    exact ⟨Io.not_hide.mpr ⟨n, ne⟩, by rw [upd_ne ne]; exact e⟩, fun _ _ e => e, fun a xs e => tup_upd (by rw [h]; simp) e, fun a q e => by rw [upd_ne (ne_of_none e h)]; exact e⟩
theorem mv_hset {g : G} {io : Io} {H : Hp} {D : Addr} {o : HO} (h : Plain (H D)) (hD : D ∈ io.hid) : Mv g io H io (upd H D o) :=
  ⟨fun a u n e _ => by
    have ne : a ≠ D := fun z => (Io.not_mem.mp n).2 (z ▸ hD)
    exact ⟨n, by rw [upd_ne ne]; exact e⟩, fun _ _ e => e, fun a xs e => tup_upd h.tup e, fun a q e => by rw [upd_ne (fun z => h.code a q (by rw [← z]; exact e))]; exact e⟩
theorem mv_bare {g : G} {io : Io} {H : Hp} {D : Addr} : Mv g (io.hide D) H io H := ⟨fun a u n e _ => ⟨(Io.not_hide.mp n).1, e⟩, fun _ _ e => e, fun _ _ e => e, fun _ _ e => e⟩
theorem ORep.mv {g : G} {io io' : Io} {H H' : Hp} (r : Mv g io H io' H') {a : Addr} (e : H' a = H a) {o : SO} (h : ORep g io H a o) : ORep g io' H' a o := by
  cases h with
  | lst z w => exact .lst (e.trans z) (w.mv r)
  | dicK z l w => exact .dicK (e.trans z) l (w.mv r)
  | dicT z l w => exact .dicT (e.trans z) l (w.mv r)
  | ins z l c w => exact .ins (e.trans z) l c (w.mv r)
theorem SRp.hide {g : G} {io : Io} {H : Hp} {s : Store} (r : SRp g io H s) {D : Addr} {o : HO} (h : H D = none) : SRp g (io.hide D) (upd H D o) s :=
  ⟨r.len, r.nd, fun a ha => by
    rcases List.mem_cons.mp (show a ∈ D :: io.hid from ha) with e | m
    · rw [e, upd_same]; simp
    · have ne : a ≠ D := fun e => r.hl a m (by rw [e]; exact h)
      rw [upd_ne ne]; exact r.hl a m, ⟨(Gr.new (io := io) (o := o) h).tb r.tab.1, r.tab.2⟩, fun n a u h1 h2 => by
    have ne : a ≠ D := fun e => (Io.not_mem.mp (r.fresh h)).1 (e ▸ List.mem_of_getElem? h1)
    exact (r.at_ n a u h1 h2).mv (mv_hide h) (upd_ne ne)⟩
theorem SRp.hset {g : G} {io : Io} {H : Hp} {s : Store} (r : SRp g io H s) {D : Addr} {o : HO} (h : Plain (H D)) (hD : D ∈ io.hid) (hn : D ∉ io.at_) : SRp g io (upd H D o) s :=
  ⟨r.len, r.nd, fun a ha => by
    by_cases e : a = D
    · rw [e, upd_same]; simp
    · rw [upd_ne e]; exact r.hl a ha, ⟨tabs_upd h r.tab.1, r.tab.2⟩, fun n a u h1 h2 => by
    have ne : a ≠ D := fun e => hn (e ▸ List.mem_of_getElem? h1)
    exact (r.at_ n a u h1 h2).mv (mv_hset h hD) (upd_ne ne)⟩
theorem SRp.bare {g : G} {io : Io} {H : Hp} {s : Store} {D : Addr} (r : SRp g (io.hide D) H s) : SRp g io H s :=
  ⟨r.len, r.nd, fun a ha => r.hl a (List.mem_cons_of_mem _ ha), r.tab, fun n a u h1 h2 => (r.at_ n a u h1 h2).mv mv_bare rfl⟩
theorem ERp.mv {g : G} {io io' : Io} {H H' : Hp} (r : Mv g io H io' H') {ρ : Env} {σ : St} (e : ERp g io H ρ σ) : ERp g io' H' ρ σ :=
  ⟨e.len, fun i p h => let ⟨x, h1, h2⟩ := e.at_ i p h; ⟨x, h1, h2.mv r⟩⟩

/-- what was being made becomes a thing of the store -/
theorem mv_adopt {g : G} {io : Io} {H : Hp} {D : Addr} : Mv g (io.hide D) H (io.app [D]) H :=
  ⟨fun a o n e _ => by
    obtain ⟨n1, n2⟩ := Io.not_hide.mp n
    obtain ⟨m1, m2⟩ := Io.not_mem.mp n1
    refine ⟨Io.not_mem.mpr ⟨?_, m2⟩, e⟩
    show a ∉ io.at_ ++ [D]
    rw [List.mem_append]
    rintro (z | z)
    · exact m1 z
    · exact n2 (List.mem_singleton.mp z), fun n a e => by
    show (io.at_ ++ [D])[n]? = some a
    have e : io.at_[n]? = some a := e
    rw [List.getElem?_append_left (List.getElem?_eq_some_iff.mp e).1]; exact e, fun _ _ e => e, fun _ _ e => e⟩
theorem SRp.adopt {g : G} {io : Io} {H : Hp} {st : Store} {D : Addr} {o : SO} (S : SRp g (io.hide D) H st) (out : D ∉ io.at_) (r : ORep g (io.hide D) H D o) : SRp g (io.app [D]) H (st ++ [o]) := by
  have len : io.at_.length = st.length := S.len
  refine ⟨?_, ?_, fun a ha => S.hl a (List.mem_cons_of_mem _ ha), S.tab, fun n a u h1 h2 => ?_⟩
  · show (io.at_ ++ [D]).length = _
    rw [List.length_append, List.length_append, len]; rfl
  · show (io.at_ ++ [D]).Nodup
    rw [List.nodup_append]
    exact ⟨S.nd, by simp, fun a ha b hb => by rw [List.mem_singleton.mp hb]; exact fun z => out (z ▸ ha)⟩
  · have h1 : (io.at_ ++ [D])[n]? = some a := h1
    by_cases hn : n < io.at_.length
    · rw [List.getElem?_append_left hn] at h1
      rw [List.getElem?_append_left (by rw [← len]; exact hn)] at h2
      exact (S.at_ n a u h1 h2).mv mv_adopt rfl
    · have hl := (List.getElem?_eq_some_iff.mp h1).1
      rw [List.length_append] at hl
      have en : n = io.at_.length := by simp at hl; omega
      subst en
      rw [List.getElem?_append_right (Nat.le_refl _), Nat.sub_self] at h1
      rw [List.getElem?_append_right (by rw [len]; exact Nat.le_refl _), len, Nat.sub_self] at h2
      cases h1
      cases h2
      exact r.mv mv_adopt rfl
theorem adopt_at {io : Io} {st : Store} {D : Addr} (len : io.at_.length = st.length) : (io.app [D]).at_[st.length]? = some D := by
  show (io.at_ ++ [D])[st.length]? = some D
  rw [← len, List.getElem?_append_right (Nat.le_refl _), Nat.sub_self]
  rfl
theorem Gr.adopt {io1 io : Io} {H1 H : Hp} {D : Addr} (gr : Gr io1 H1 io H) (hD : H1 D = none) : Gr io1 H1 (io.app [D]) H := by
  obtain ⟨k, ek, hk⟩ := gr.pre
  refine ⟨fun a u q e n => gr.ext a u q e n, gr.tb, gr.live, k ++ [D], by rw [ek, Io.app_app], fun a ha => ?_⟩
  rcases List.mem_append.mp ha with m | m
  · exact hk a m
  · rw [List.mem_singleton.mp m]; exact hD
/-! ### what is read -/
mutual
theorem Rep.dp {g : G} {io : Io} {H : Hp} : ∀ {p : PV} {x : V} {d : PyData}, Rep g io H p x → toD p = some d → Dp g.K H x d
  | .non, _, _, .non, h => by cases h; exact .non
  | .bl _, _, _, .bl b, h => by cases h; exact .bl b
  | .int _, _, _, .int b, h => by cases h; exact .int b
  | .str _, _, _, .str b, h => by cases h; exact .str b
  | .tup ps, _, d, .tup e q, h => by
    unfold toD at h
    cases hs : toDs ps with
    | none => rw [hs] at h; cases h
    | some ds => rw [hs] at h; cases h; exact .tup (SqT.of e) (Reps.dp q hs)
  | .lst ps, _, d, .lst _ e q, h => by
    unfold toD at h
    cases hs : toDs ps with
    | none => rw [hs] at h; cases h
    | some ds => rw [hs] at h; cases h; exact .lst (SqL.of e) (Reps.dp q hs)
  | .ty _, _, _, _, h => by cases h
  | .scr _, _, _, _, h => by cases h
  | .dic _ _ _, _, _, _, h => by cases h
  | .ins _ _ _, _, _, _, h => by cases h
  | .exn _ _ _, _, _, _, h => by cases h
  | .ref _, _, _, _, h => by cases h
  | .glo _, _, _, _, h => by cases h
  | .clo _, _, _, _, h => by cases h
theorem Reps.dp {g : G} {io : Io} {H : Hp} : ∀ {ps : List PV} {xs : List V} {ds : List PyData}, Reps g io H ps xs → toDs ps = some ds → DpAll g.K H xs ds
  | [], _, _, .nil, h => by cases h; exact .nil
  | p :: ps, _, _, .cons r q, h => by
    unfold toDs at h
    cases h1 : toD p with
    | none => rw [h1] at h; cases h
    | some d =>
      rw [h1] at h
      cases h2 : toDs ps with
      | none => rw [h2] at h; cases h
      | some ds => rw [h2] at h; cases h; exact .cons (Rep.dp r h1) (Reps.dp q h2)
end
/-- a list or tuple: read at once -/
theorem rep_seq {g : G} {io : Io} {H : Hp} {s : Store} (r : SRp g io H s) {p : PV} {x : V} (h : Rep g io H p x) {ps : List PV} (e : seqOf s p = some ps) :
    ∃ a xs, x = .ref a ∧ (SqL g.K H a xs ∨ H a = some (.tup xs)) ∧ Reps g io H ps xs := by
  cases h with
  | tup z q => cases e; exact ⟨_, _, rfl, .inr z, q⟩
  | lst n z q => cases e; exact ⟨_, _, rfl, .inl (SqL.of z), q⟩
  | scr z q =>
    cases e
    refine ⟨_, _, rfl, .inl ?_, q⟩
    rcases z with ⟨_, z⟩ | z
    · exact .inl z
    · exact .inr z
  | ref z =>
    rename_i n a
    obtain ⟨o, h1, h2⟩ := r.find z
    simp only [seqOf, h1] at e
    cases h2 with
    | lst y q => cases e; exact ⟨_, _, rfl, .inl (SqL.of y), q⟩
    | dicK y _ q => cases e
    | dicT y _ q => cases e
    | ins y _ _ q => cases e
  | _ => cases e
theorem rep_lst {g : G} {io : Io} {H : Hp} {s : Store} (r : SRp g io H s) {p : PV} {x : V} (h : Rep g io H p x) {ps : List PV} (e : lstOf s p = some ps) :
    ∃ a xs, x = .ref a ∧ H a = some (.lst xs) ∧ Reps g io H ps xs := by
  cases h with
  | lst n z q => cases e; exact ⟨_, _, rfl, z, q⟩
  | ref z =>
    rename_i n a
    obtain ⟨o, h1, h2⟩ := r.find z
    simp only [lstOf, h1] at e
    cases h2 with
    | lst y q => cases e; exact ⟨_, _, rfl, y, q⟩
    | dicK y _ q => cases e
    | dicT y _ q => cases e
    | ins y _ _ q => cases e
  | _ => cases e
theorem rep_data {g : G} {io : Io} {H : Hp} {s : Store} (r : SRp g io H s) {p : PV} {x : V} (h : Rep g io H p x) {d : PyData} (e : toDS s p = some d) : Dp g.K H x d := by
  cases p with
  | ref n =>
    cases h with
    | ref z =>
      obtain ⟨o, h1, h2⟩ := r.find z
      simp only [toDS, h1] at e
      cases h2 with
      | lst y q =>
        rename_i ps xs
        have e : (toDs ps).map PyData.list = some d := e
        cases hs : toDs ps with
        | none => rw [hs] at e; cases e
        | some ds => rw [hs] at e; cases e; exact .lst (SqL.of y) (q.dp hs)
      | dicK y _ q => cases e
      | dicT y _ q => cases e
      | ins y _ _ q => cases e
  | _ => exact h.dp e
end Mini

set_option Elab.async false
set_option linter.all false
set_option maxRecDepth 100000
/-! Mini2d: dicts, their readings. -/
namespace Mini
open PySem L2
/-! ### keys -/
theorem peq_dec (a b : PV) : peq a b = true ↔ a = b := ⟨peq_ok a b, fun h => h ▸ peq_refl a⟩
theorem keyP_inj {a b : Key} (h : keyP a = keyP b) : a = b := by
  cases a <;> cases b <;> simp_all [keyP]
theorem keyPs_inj : ∀ {a b : List Key}, a.map keyP = b.map keyP → a = b
  | [], [], _ => rfl
  | [], _ :: _, h => by cases h
  | _ :: _, [], h => by cases h
  | a :: as, b :: bs, h => by
    simp only [List.map_cons, List.cons.injEq] at h
    rw [keyP_inj h.1, keyPs_inj h.2]
def keyTP (k : List Key) : PV := .tup (k.map keyP)
theorem keyTP_inj {a b : List Key} (h : keyTP a = keyTP b) : a = b := by
  unfold keyTP at h
  injection h with h
  exact keyPs_inj h
theorem keyB_ok {k : PV} (h : keyB k = true) : ∃ c, k = keyP c := by
  cases k with
  | int i => exact ⟨.inl i, rfl⟩
  | str x => exact ⟨.inr x, rfl⟩
  | _ => simp [keyB] at h
theorem keyBs_ok : ∀ {ks : List PV}, ks.all keyB = true → ∃ cs : List Key, ks = cs.map keyP
  | [], _ => ⟨[], rfl⟩
  | k :: ks, h => by
    obtain ⟨h1, h2⟩ := Bool.and_eq_true_iff.mp (show (keyB k && ks.all keyB) = true from h)
    obtain ⟨c, rfl⟩ := keyB_ok h1
    obtain ⟨cs, rfl⟩ := keyBs_ok h2
    exact ⟨c :: cs, rfl⟩
section
variable {κ : Type} [DecidableEq κ] {e : κ → PV} {g : G} {io : Io} {H : Hp}
theorem dget_val (inj : ∀ a b, e a = e b → a = b) (k : κ) : ∀ {ks : List κ} {ps : List PV} {xs : List V}, ks.length = xs.length → Reps g io H ps xs →
    (∀ v, dget (ks.map e) ps (e k) = some v → ∃ x, valV (ks.zip xs) k = some x ∧ Rep g io H v x) ∧ (dhas (ks.map e) (e k) = (valV (ks.zip xs) k).isSome)
  | [], [], [], _, .nil => ⟨fun v h => by simp [dget] at h, rfl⟩
  | [], _ :: _, [], _, r => by cases r
  | _ :: _, [], _, hl, r => by cases r; simp at hl
  | q :: ks, p :: ps, x :: xs, hl, .cons r1 r2 => by
    obtain ⟨ih1, ih2⟩ := dget_val inj k (by simpa using hl) r2
    by_cases hq : q = k
    · subst hq
      refine ⟨fun v h => ?_, ?_⟩
      · simp only [List.map_cons, dget, peq_refl, if_true] at h
        cases h
        exact ⟨x, valV_pos (p := (q, x)) rfl, r1⟩
      · rw [List.zip_cons_cons, valV_pos (p := (q, x)) rfl]
        simp [dhas, peq_refl]
    · have hne : peq (e q) (e k) = false := by
        cases h : peq (e q) (e k) with
        | false => rfl
        | true => exact absurd (inj _ _ (peq_ok _ _ h)) hq
      refine ⟨fun v h => ?_, ?_⟩
      · simp only [List.map_cons, dget, hne, Bool.false_eq_true, if_false] at h
        obtain ⟨y, h1, h2⟩ := ih1 v h
        exact ⟨y, by rw [List.zip_cons_cons, valV_neg (p := (q, x)) hq]; exact h1, h2⟩
      · rw [List.zip_cons_cons, valV_neg (p := (q, x)) hq, ← ih2]
        simp [dhas, hne]
theorem dset_val (inj : ∀ a b, e a = e b → a = b) (k : κ) {y : PV} {z : V} (ry : Rep g io H y z) : ∀ {ks : List κ} {ps : List PV} {xs : List V}, ks.length = xs.length → Reps g io H ps xs →
    ∃ xs', (ks.zip xs).map (fun kv => if kv.1 = k then (kv.1, z) else kv) = ks.zip xs' ∧ ks.length = xs'.length ∧ Reps g io H (dset (ks.map e) ps (e k) y) xs'
  | [], [], [], _, .nil => ⟨[], rfl, rfl, .nil⟩
  | [], _ :: _, [], _, r => by cases r
  | _ :: _, [], _, hl, r => by cases r; simp at hl
  | q :: ks, p :: ps, x :: xs, hl, .cons r1 r2 => by
    obtain ⟨xs', h1, h2, h3⟩ := dset_val inj k ry (by simpa using hl) r2
    by_cases hq : q = k
    · subst hq
      refine ⟨z :: xs', ?_, by simp [h2], ?_⟩
      · rw [List.zip_cons_cons, List.map_cons, List.zip_cons_cons, if_pos rfl, h1]
      · simp only [List.map_cons, dset, peq_refl, if_true]
        exact .cons ry h3
    · have hne : peq (e q) (e k) = false := by
        cases h : peq (e q) (e k) with
        | false => rfl
        | true => exact absurd (inj _ _ (peq_ok _ _ h)) hq
      refine ⟨x :: xs', ?_, by simp [h2], ?_⟩
      · rw [List.zip_cons_cons, List.map_cons, List.zip_cons_cons, if_neg hq, h1]
      · simp only [List.map_cons, dset, hne, Bool.false_eq_true, if_false]
        exact .cons r1 h3
theorem dput_val (inj : ∀ a b, e a = e b → a = b) (k : κ) {y : PV} {z : V} (ry : Rep g io H y z) {ks : List κ} {ps : List PV} {xs : List V} (hl : ks.length = xs.length) (r : Reps g io H ps xs) :
    ∃ (ks' : List κ) (xs' : List V), putK (ks.zip xs) k z = ks'.zip xs' ∧ ks'.length = xs'.length ∧ (dput (ks.map e) ps (e k) y).1 = ks'.map e ∧ Reps g io H (dput (ks.map e) ps (e k) y).2 xs' := by
  have hh := (dget_val inj k hl r).2
  unfold putK dput
  rw [valV_any, hh]
  cases (valV (ks.zip xs) k).isSome with
  | true =>
    obtain ⟨xs', h1, h2, h3⟩ := dset_val inj k ry hl r
    exact ⟨ks, xs', by rw [if_pos rfl]; exact h1, h2, rfl, h3⟩
  | false =>
    refine ⟨ks ++ [k], xs ++ [z], ?_, by simp [hl], ?_, ?_⟩
    · rw [if_neg (by decide), List.zip_append hl]; rfl
    · rw [if_neg (by decide)]; simp
    · rw [if_neg (by decide)]; exact r.append (.cons ry .nil)
end
section
variable {g : G} {io : Io} {H : Hp} {s : Store}
/-- a key stands as it is -/
theorem key_k {k : Key} {y : V} (h : Rep g io H (keyP k) y) : y = kV k := by
  cases k with
  | inl i => cases h; rfl
  | inr x => cases h; rfl
theorem keys_k : ∀ {k : List Key} {ys : List V}, Reps g io H (k.map keyP) ys → ys = k.map kV
  | [], _, .nil => rfl
  | k :: ks, _, .cons h r => by rw [key_k h, keys_k r]; rfl
theorem key_t {k : List Key} {y : V} (h : Rep g io H (keyTP k) y) : ∃ b, y = .ref b ∧ H b = some (.tup (k.map kV)) := by
  cases h with
  | tup z q => exact ⟨_, rfl, by rw [z, keys_k q]⟩
/-- a dict, read at once -/
inductive DRep (g : G) (io : Io) (H : Hp) (a : Addr) : Bool → List PV → List PV → Prop
  | k {ks : List Key} {ps : List PV} {xs : List V} : H a = some (.dK (ks.zip xs)) → ks.length = xs.length → Reps g io H ps xs → DRep g io H a false (ks.map keyP) ps
  | t {ks : List (List Key)} {ps : List PV} {xs : List V} : H a = some (.dT (ks.zip xs)) → ks.length = xs.length → Reps g io H ps xs → DRep g io H a true (ks.map keyTP) ps
theorem rep_dic (S : SRp g io H s) {p : PV} {x : V} (h : Rep g io H p x) {t : Bool} {ks vs : List PV} (e : dicOf s p = some (t, ks, vs)) : ∃ a, x = .ref a ∧ DRep g io H a t ks vs := by
  cases h with
  | dicK n z l q => cases e; exact ⟨_, rfl, .k z l q⟩
  | dicT n z l q => cases e; exact ⟨_, rfl, .t z l q⟩
  | ref z =>
    obtain ⟨o, h1, h2⟩ := S.find z
    simp only [dicOf, h1] at e
    cases h2 with
    | lst y q => cases e
    | dicK y l q => cases e; exact ⟨_, rfl, .k y l q⟩
    | dicT y l q => cases e; exact ⟨_, rfl, .t y l q⟩
    | ins y _ _ q => cases e
  | _ => cases e
theorem zip_len {α β : Type} {ks : List α} {xs : List β} (h : ks.length = xs.length) : (ks.zip xs).length = ks.length := by rw [List.length_zip, h, Nat.min_self]
/-- what is found under a key -/
theorem dic_get {a : Addr} {t : Bool} {ks vs : List PV} {k : PV} {y : V} (d : DRep g io H a t ks vs) (hk : keyOk t k = true) (r : Rep g io H k y) :
    ∃ o, DGet H a y o ∧ dhas ks k = o.isSome ∧ ∀ v, dget ks vs k = some v → ∃ x, o = some x ∧ Rep g io H v x := by
  cases d with
  | k z l q =>
    obtain ⟨c, rfl⟩ := keyB_ok hk
    have e := key_k r
    subst e
    obtain ⟨h1, h2⟩ := dget_val (e := keyP) (fun a b => keyP_inj) c l q
    exact ⟨_, DGet.k z, h2, h1⟩
  | t z l q =>
    simp only [keyOk] at hk
    split at hk
    · rename_i xs
      obtain ⟨c, rfl⟩ := keyBs_ok hk
      obtain ⟨b, rfl, hb⟩ := key_t (k := c) r
      obtain ⟨h1, h2⟩ := dget_val (e := keyTP) (fun a b => keyTP_inj) c l q
      exact ⟨_, DGet.t z hb, h2, h1⟩
    · cases hk
end
section
variable {X : Cx} {g : G}
theorem ix_dic (hu : X.A.units + 1 < cLine) : IxR X (fun x y H Q => ∃ a v, x = .ref a ∧ DGet H a y (some v) ∧ Q v H) := by
  intro value slice pins s σ H x y v u Q I rx ry ⟨a, w, e, d, q⟩ hs
  subst e
  cases rx
  exact PyProof.Rows.tail_any (ops := _) (dict_typeIs I d) PySem.F.slot_dict_getitem.lookup (d_getItem hu I d ry fun w' s' I' rw' => ⟨w, H, I', rw', q⟩) hs
theorem in_dic (hu : X.A.units + 1 < cLine) : OpR X (compareOp .In) (fun y x H Q => ∃ a o, x = .ref a ∧ DGet H a y o ∧ Q (.bl o.isSome) H) := by
  intro pins s σ H y x u v Q I ry rx ⟨a, o, e, d, q⟩
  subst e
  cases rx
  exact d_in hu I d ry fun s' I' => ⟨.bl _, H, I', rfl, q⟩
theorem notIn_dic (hu : X.A.units + 1 < cLine) : OpR X (compareOp .NotIn) (fun y x H Q => ∃ a o, x = .ref a ∧ DGet H a y o ∧ Q (.bl (!o.isSome)) H) := by
  intro pins s σ H y x u v Q I ry rx ⟨a, o, e, d, q⟩
  subst e
  cases rx
  exact d_notIn hu I d ry fun s' I' => ⟨.bl _, H, I', rfl, q⟩
theorem set_dic (hu : X.A.units + 1 < cLine) : PSet X (fun o i v H Q => ∃ a H', o = .ref a ∧ DPut H a i v H' ∧ Q H') := by
  intro pins s σ H o i v ov iv u Q I ro ri rv ⟨a, H', e, d, q⟩
  subst e
  cases ro
  exact d_setItem hu I d ri rv fun s' I' => ⟨H', I', q⟩
end
end Mini

set_option Elab.async false
set_option linter.all false
set_option maxRecDepth 100000
/-! Mini3: the operators' readings. -/
namespace Mini
open PySem L2

/-- what may come behind a thing that changes nothing but lays new ones -/
def After (g : G) (io : Io) (H : Hp) (s : Store) (v : PV) (Q : VK) : Prop := ∀ io' H' z, Gr io H io' H' → SRp g io' H' s → Rep g io' H' v z → Q z H'
theorem After.here {g : G} {io : Io} {H : Hp} {s : Store} {v : PV} {Q : VK} (h : After g io H s v Q) (S : SRp g io H s) {z : V} (r : Rep g io H v z) : Q z H := h io H z (Gr.refl _ _) S r
theorem After.lst {g : G} {io : Io} {H : Hp} {s : Store} {ps : List PV} {xs : List V} {Q : VK} (h : After g io H s (.lst ps) Q) (S : SRp g io H s) (r : Reps g io H ps xs) {p : Addr} (hp : H p = none) : Q (.ref p) (upd H p (.lst xs)) :=
  h io _ _ (Gr.new hp) (S.new hp) (.lst (S.fresh hp) upd_same (r.grow (Gr.new hp) S.sto))
theorem After.tup {g : G} {io : Io} {H : Hp} {s : Store} {ps : List PV} {xs : List V} {Q : VK} (h : After g io H s (.tup ps) Q) (S : SRp g io H s) (r : Reps g io H ps xs) {p : Addr} (hp : H p = none) : Q (.ref p) (upd H p (.tup xs)) :=
  h io _ _ (Gr.new hp) (S.new hp) (.tup upd_same (r.grow (Gr.new hp) S.sto))
/-- a two-place operation -/
def rB (g : G) (f : PV → PV → Store → Option PV) : R2 := fun x y H Q => ∃ io s p q v, SRp g io H s ∧ Rep g io H p x ∧ Rep g io H q y ∧ f p q s = some v ∧ After g io H s v Q
def rBb (g : G) (f : PV → PV → Store → Option Bool) : R2 := fun x y H Q => ∃ io s p q v, SRp g io H s ∧ Rep g io H p x ∧ Rep g io H q y ∧ f p q s = some v ∧ Q (.bl v) H
theorem szOk_iff {n : Nat} : szOk n = true ↔ n ≤ sizeLine := by unfold szOk; exact decide_eq_true_iff
section
variable {X : Cx} {g : G}
theorem opR_add (hK : X.K = g.K) : OpR X (binaryOp .Add) (rB g (bop .add)) := by
  intro pins s σ H x y v u Q I rx ry ⟨io, st, p, q, r, S, hp, hq, e, h⟩
  simp only [bop] at e
  split at e
  · cases hp; cases hq; cases e
    exact op_add pins s σ H _ _ v u Q I rx ry ⟨_, _, rfl, rfl, h.here S (.int _)⟩
  · cases hp; cases hq
    split at e
    · rename_i hz
      cases e
      exact op_add_str pins s σ H _ _ v u Q I rx ry ⟨_, _, rfl, rfl, szOk_iff.mp hz, h.here S (.str _)⟩
    · cases e
  · split at e
    · rename_i hz
      cases e
      cases hp with
      | tup z1 q1 =>
        rename_i a xs
        cases hq with
        | tup z2 q2 =>
          rename_i b ys
          rw [q1.length, q2.length] at hz
          refine op_catA pins s σ H _ _ v u Q I rx ry ⟨a, b, xs, ys, rfl, rfl, SqT.of z1, SqT.of z2, szOk_iff.mp hz, fun e0 => ?_, fun _ e0 => ?_, fun _ _ p hp => ?_⟩
          · subst e0
            cases q1
            exact h.here S (.tup z2 q2)
          · subst e0
            cases q2
            rw [List.append_nil] at h
            exact h.here S (.tup z1 q1)
          · exact h.tup S (q1.append q2) hp
    · cases e
  · unfold addL at e
    split at e
    · rename_i xs ys h1 h2
      split at e
      · rename_i hz
        cases e
        obtain ⟨a, ws, rfl, z1, q1⟩ := rep_lst S hp h1
        obtain ⟨b, us, rfl, z2, q2⟩ := rep_lst S hq h2
        rw [q1.length, q2.length] at hz
        exact op_cat pins s σ H _ _ v u Q I rx ry ⟨a, b, _, _, rfl, rfl, z1, z2, szOk_iff.mp hz, fun p hp => h.lst S (q1.append q2) hp⟩
      · cases e
    · cases e
theorem opR_sub : OpR X (binaryOp .Sub) (rB g (bop .sub)) := by
  intro pins s σ H x y v u Q I rx ry ⟨io, st, p, q, r, S, hp, hq, e, h⟩
  simp only [bop] at e
  split at e
  · cases hp; cases hq; cases e
    exact op_sub pins s σ H _ _ v u Q I rx ry ⟨_, _, rfl, rfl, h.here S (.int _)⟩
  · cases e
theorem opR_fdiv : OpR X (binaryOp .FloorDiv) (rB g (bop .fdiv)) := by
  intro pins s σ H x y v u Q I rx ry ⟨io, st, p, q, r, S, hp, hq, e, h⟩
  simp only [bop] at e
  split at e
  · split at e
    · rename_i hz
      have hz := of_decide_eq_true hz
      cases hp; cases hq; cases e
      exact op_fdiv pins s σ H _ _ v u Q I rx ry ⟨_, _, rfl, rfl, hz, h.here S (.int _)⟩
    · cases e
  · cases e
theorem opR_mod : OpR X (binaryOp .Mod) (rB g (bop .mod)) := by
  intro pins s σ H x y v u Q I rx ry ⟨io, st, p, q, r, S, hp, hq, e, h⟩
  simp only [bop] at e
  split at e
  · split at e
    · rename_i hz
      cases hp; cases hq; cases e
      exact op_mod pins s σ H _ _ v u Q I rx ry ⟨_, _, rfl, rfl, of_decide_eq_true hz, h.here S (.int _)⟩
    · cases e
  · cases e
theorem opR_pow : OpR X (binaryOp .Pow) (rB g (bop .pow)) := by
  intro pins s σ H x y v u Q I rx ry ⟨io, st, p, q, r, S, hp, hq, e, h⟩
  simp only [bop] at e
  split at e
  · split at e
    · rename_i hz
      have hz := of_decide_eq_true hz
      cases hp; cases hq; cases e
      exact op_pow pins s σ H _ _ v u Q I rx ry ⟨_, _, rfl, rfl, hz, h.here S (.int _)⟩
    · cases e
  · cases e
theorem opR_mul (hK : X.K = g.K) : OpR X (binaryOp .Mult) (rB g (bop .mul)) := by
  intro pins s σ H x y v u Q I rx ry ⟨io, st, p, q, r, S, hp, hq, e, h⟩
  simp only [bop] at e
  split at e
  · split at e
    · rename_i hz
      cases hp; cases hq; cases e
      refine op_mul pins s σ H _ _ v u Q I rx ry ⟨_, _, rfl, rfl, ?_, h.here S (.int _)⟩
      rcases Bool.or_eq_true_iff.mp hz with z | z
      · exact .inl (of_decide_eq_true z)
      · exact .inr (of_decide_eq_true z)
    · cases e
  · split at e
    · rename_i xs k hz
      cases e
      obtain ⟨h1, h2, h3⟩ := of_decide_eq_true hz
      cases hq
      cases hp with
      | tup z q =>
        have hl := q.length
        by_cases hA : xs = [] ∨ k = 1
        · refine op_repL pins s σ H _ _ v u Q I rx ry ⟨_, _, _, rfl, rfl, SqT.of z, h1, h2, ?_⟩
          rw [if_pos (hA.imp (fun e => by rw [e] at hl; exact List.eq_nil_of_length_eq_zero hl.symm) id)]
          have er : Mini.rep k.toNat xs = xs := by
            rcases hA with e | e
            · rw [e]; unfold Mini.rep; simp
            · rw [e]; unfold Mini.rep; simp
          rw [er] at h
          exact h.here S (.tup z q)
        · obtain ⟨k1, k2⟩ := not_or.mp hA
          by_cases hB : k ≤ 0
          · refine op_repL pins s σ H _ _ v u Q I rx ry ⟨_, _, _, rfl, rfl, SqT.of z, h1, h2, ?_⟩
            rw [if_neg (fun z => hA (z.imp (fun e => by rw [e] at hl; exact List.eq_nil_of_length_eq_zero hl) id))]
            have er : Mini.rep k.toNat xs = [] := by
              have : k.toNat = 0 := by omega
              rw [this]; rfl
            rw [er] at h
            exact ⟨hB, fun p hp => h.tup S .nil hp⟩
          · have h4 : k ≤ 1000 ∧ xs.length ≤ 1000 := by
              rcases h3 with e | e | e
              · exact absurd (List.eq_nil_of_length_eq_zero e) k1
              · omega
              · exact e
            exact op_repT pins s σ H _ _ v u Q I rx ry ⟨_, _, _, rfl, rfl, SqT.of z, fun e => k1 (by rw [e] at hl; exact List.eq_nil_of_length_eq_zero hl), by omega, h4.1, by rw [← hl]; exact h4.2, fun p hp => h.tup S (q.rep _) hp⟩
    · cases e
  · unfold mulL at e
    split at e
    · rename_i xs h1
      split at e
      · rename_i hz
        cases e
        obtain ⟨h2, h3⟩ := Bool.and_eq_true_iff.mp hz
        obtain ⟨h4, h5⟩ := of_decide_eq_true h2
        obtain ⟨a, ws, rfl, z1, q1⟩ := rep_lst S hp h1
        cases hq
        rw [q1.length] at h3
        exact op_rep pins s σ H _ _ v u Q I rx ry ⟨a, _, _, rfl, rfl, z1, h4, h5, szOk_iff.mp h3, fun p hp => h.lst S (q1.rep _) hp⟩
      · cases e
    · cases e
  · cases e
def bopO : Bop → Operator
  | .add => .Add
  | .sub => .Sub
  | .mul => .Mult
  | .fdiv => .FloorDiv
  | .mod => .Mod
  | .pow => .Pow
theorem opR (hK : X.K = g.K) (o : Bop) : OpR X (binaryOp (bopO o)) (rB g (bop o)) := by
  cases o with
  | add => exact opR_add hK
  | sub => exact opR_sub
  | mul => exact opR_mul hK
  | fdiv => exact opR_fdiv
  | mod => exact opR_mod
  | pow => exact opR_pow
/-- lists put together or repeated, to be owned -/
theorem opR_own (hK : X.K = g.K) (o : Bop) : OpR X (binaryOp (bopO o)) (fun x y H Q => ∃ io st p q xs, SRp g io H st ∧ Rep g io H p x ∧ Rep g io H q y ∧ lopF o p q st = some xs ∧ ∀ ys, Reps g io H xs ys → ∀ u, H u = none → Q (.ref u) (upd H u (.lst ys))) := by
  intro pins s σ H x y v u Q I rx ry ⟨io, st, p, q, xs, S, hp, hq, e, h⟩
  unfold lopF at e
  split at e
  · obtain ⟨l1, h1, e⟩ := Option.bind_eq_some_iff.mp e
    obtain ⟨l2, h2, e⟩ := Option.bind_eq_some_iff.mp e
    split at e
    · rename_i hz
      cases e
      obtain ⟨a, ws, rfl, z1, q1⟩ := rep_lst S hp h1
      obtain ⟨b, us, rfl, z2, q2⟩ := rep_lst S hq h2
      rw [q1.length, q2.length] at hz
      exact op_cat pins s σ H _ _ v u Q I rx ry ⟨a, b, _, _, rfl, rfl, z1, z2, szOk_iff.mp hz, fun p hp => h _ (q1.append q2) p hp⟩
    · cases e
  · obtain ⟨k, hk, e⟩ := Option.bind_eq_some_iff.mp e
    obtain ⟨l1, h1, e⟩ := Option.bind_eq_some_iff.mp e
    split at e
    · rename_i hz
      cases e
      obtain ⟨h2, h3⟩ := Bool.and_eq_true_iff.mp hz
      obtain ⟨h4, h5⟩ := of_decide_eq_true h2
      obtain ⟨a, ws, rfl, z1, q1⟩ := rep_lst S hp h1
      have hk : q = .int k := by cases q <;> simp_all [intV]
      subst hk
      cases hq
      rw [q1.length] at h3
      exact op_rep pins s σ H _ _ v u Q I rx ry ⟨a, _, _, rfl, rfl, z1, h4, h5, szOk_iff.mp h3, fun p hp => h _ (q1.rep _) p hp⟩
    · cases e
  · cases e
theorem unR_neg : UnR X (unaryOp .USub) (fun x H Q => ∃ io s p v, SRp g io H s ∧ Rep g io H p x ∧ negV p = some v ∧ After g io H s v Q) := by
  intro pins s σ H x v Q I rx ⟨io, st, p, r, S, hp, e, h⟩
  unfold negV at e
  split at e
  · cases hp; cases e
    exact un_neg pins s σ H _ v Q I rx ⟨_, rfl, h.here S (.int _)⟩
  · cases e

/-! ### comparisons -/
def copO : Cop → CmpOp
  | .eq => .Eq
  | .ne => .NotEq
  | .lt => .Lt
  | .le => .LtE
  | .gt => .Gt
  | .ge => .GtE
  | .is => .Is
  | .isnot => .IsNot
  | .isin => .In
  | .notin => .NotIn
theorem eqD_ok {io : Io} {H : Hp} {st : Store} {p q : PV} {x y : V} {c : Bool} (S : SRp g io H st) (hp : Rep g io H p x) (hq : Rep g io H q y) (e : eqD st p q = some c) :
    ∃ d d', Dp g.K H x d ∧ Dp g.K H y d' ∧ SeqAt.shaped d = true ∧ SeqAt.shaped d' = true ∧ c = PyData.eqv d d' := by
  unfold eqD at e
  split at e
  · rename_i d d' h1 h2
    split at e
    · rename_i hz
      obtain ⟨z1, z2⟩ := Bool.and_eq_true_iff.mp hz
      cases e
      exact ⟨d, d', rep_data S hp h1, rep_data S hq h2, z1, z2, rfl⟩
    · cases e
  · cases e
theorem inD_ok {io : Io} {H : Hp} {st : Store} {p q : PV} {x y : V} {c : Bool} (S : SRp g io H st) (hp : Rep g io H p x) (hq : Rep g io H q y) (e : inD st p q = some c) :
    ∃ d ds, Dp g.K H x d ∧ (Dp g.K H y (.list ds) ∨ Dp g.K H y (.tuple ds)) ∧ SeqAt.shaped d = true ∧ SeqAt.shaped (.list ds) = true ∧ c = ds.any fun z => PyData.eqv z d := by
  unfold inD at e
  split at e
  · rename_i d ds h1 h2
    split at e
    · rename_i hz
      obtain ⟨z1, z2⟩ := Bool.and_eq_true_iff.mp hz
      cases e
      cases h3 : seqOf st q with
      | none => rw [h3] at h2; cases h2
      | some ps =>
        rw [h3] at h2
        have h2 : toDs ps = some ds := h2
        obtain ⟨a, xs, rfl, h4, h5⟩ := rep_seq S hq h3
        refine ⟨d, ds, rep_data S hp h1, ?_, z1, z2, rfl⟩
        rcases h4 with h4 | h4
        · exact .inl (.lst h4 (h5.dp h2))
        · exact .inr (.tup (SqT.of h4) (h5.dp h2))
    · cases e
  · cases e
theorem inG_ok {io : Io} {H : Hp} {st : Store} {p q : PV} {x y : V} {c : Bool} (S : SRp g io H st) (hp : Rep g io H p x) (hq : Rep g io H q y) (e : inG st p q = some c) :
    inD st p q = some c ∨ ∃ a o, y = .ref a ∧ DGet H a x o ∧ c = o.isSome := by
  unfold inG at e
  split at e
  · rename_i t ks vs h1
    split at e
    · rename_i hk
      cases e
      obtain ⟨a, rfl, d⟩ := rep_dic S hq h1
      obtain ⟨o, h2, h3, _⟩ := dic_get d hk hp
      exact .inr ⟨a, o, rfl, h2, h3⟩
    · cases e
  · exact .inl e
theorem inR (hK : X.K = g.K) (hu : X.A.units + 65 < cLine) : OpR X (compareOp .In) (rBb g (cop .isin)) := by
  intro pins s σ H x y v u Q I rx ry ⟨io, st, p, q, c, S, hp, hq, e, h⟩
  rcases inG_ok S hp hq e with e | ⟨a, o, rfl, d, rfl⟩
  rotate_left
  · exact in_dic (by omega) pins s σ H x _ v u Q I rx ry ⟨a, o, rfl, d, h⟩
  obtain ⟨d, ds, h1, h2, z1, z2, rfl⟩ := inD_ok S hp hq e
  rw [← hK] at h1 h2
  rcases h2 with h2 | h2
  · exact op_inD hu pins s σ H x y v u Q I rx ry ⟨d, ds, h1, h2, z1, z2, h⟩
  · obtain ⟨as, r1⟩ := Dp.reads I d x v h1 rx
    obtain ⟨bs, r2⟩ := Dp.reads I (.tuple ds) y u h2 ry
    exact SeqAt.in_tuple_reads r2 r1 (SeqAt.canLay_of_shaped (d := .list ds) z2) (SeqAt.canLay_of_shaped z1) (PyProof.Rows.room_in_shaped z1 hu) ⟨.bl _, H, I, rfl, h⟩
theorem notInR (hK : X.K = g.K) (hu : X.A.units + 65 < cLine) : OpR X (compareOp .NotIn) (rBb g (cop .notin)) := by
  intro pins s σ H x y v u Q I rx ry ⟨io, st, p, q, c, S, hp, hq, e, h⟩
  obtain ⟨c', e', rfl⟩ := Option.map_eq_some_iff.mp e
  rcases inG_ok S hp hq e' with e' | ⟨a, o, rfl, d, rfl⟩
  rotate_left
  · exact notIn_dic (by omega) pins s σ H x _ v u Q I rx ry ⟨a, o, rfl, d, h⟩
  obtain ⟨d, ds, h1, h2, z1, z2, rfl⟩ := inD_ok S hp hq e'
  rw [← hK] at h1 h2
  rcases h2 with h2 | h2
  · exact op_notInD hu pins s σ H x y v u Q I rx ry ⟨d, ds, h1, h2, z1, z2, h⟩
  · obtain ⟨as, r1⟩ := Dp.reads I d x v h1 rx
    obtain ⟨bs, r2⟩ := Dp.reads I (.tuple ds) y u h2 ry
    exact SeqAt.notIn_tuple_reads r2 r1 (SeqAt.canLay_of_shaped (d := .list ds) z2) (SeqAt.canLay_of_shaped z1) (PyProof.Rows.room_in_shaped z1 hu) ⟨.bl _, H, I, rfl, h⟩
theorem isV_ok {io : Io} {H : Hp} {p q : PV} {x y : V} {c : Bool} (hp : Rep g io H p x) (hq : Rep g io H q y) (e : isV p q = some c) : (y = .non ∧ c = decide (x = .non)) ∨ ∃ a b : Bool, x = .bl a ∧ y = .bl b ∧ c = decide (a = b) := by
  unfold isV at e
  split at e
  · cases hq
    refine .inl ⟨rfl, ?_⟩
    split at e
    · cases hp; cases e; rfl
    · cases e
    · rename_i h1 h2
      cases e
      cases hp <;> first | rfl | (exact absurd rfl h1) | (exact absurd rfl (h2 _))
  · rename_i a b
    cases hp; cases hq; cases e
    refine .inr ⟨a, b, rfl, rfl, ?_⟩
    cases a <;> cases b <;> rfl
  · cases e
theorem cmpR (hK : X.K = g.K) (hu : X.A.units + 65 < cLine) (o : Cop) : OpR X (compareOp (copO o)) (rBb g (cop o)) := by
  cases o with
  | eq =>
    intro pins s σ H x y v u Q I rx ry ⟨io, st, p, q, c, S, hp, hq, e, h⟩
    obtain ⟨d, d', h1, h2, z1, z2, rfl⟩ := eqD_ok S hp hq e
    rw [← hK] at h1 h2
    exact op_eqD (by omega) pins s σ H x y v u Q I rx ry ⟨d, d', h1, h2, z1, z2, h⟩
  | ne =>
    intro pins s σ H x y v u Q I rx ry ⟨io, st, p, q, c, S, hp, hq, e, h⟩
    obtain ⟨c', e', rfl⟩ := Option.map_eq_some_iff.mp e
    obtain ⟨d, d', h1, h2, z1, z2, rfl⟩ := eqD_ok S hp hq e'
    rw [← hK] at h1 h2
    exact op_neD (by omega) pins s σ H x y v u Q I rx ry ⟨d, d', h1, h2, z1, z2, h⟩
  | isin => exact inR hK hu
  | notin => exact notInR hK hu
  | is =>
    intro pins s σ H x y v u Q I rx ry ⟨io, st, p, q, c, S, hp, hq, e, h⟩
    rcases isV_ok hp hq e with ⟨rfl, rfl⟩ | ⟨a, b, rfl, rfl, rfl⟩
    · exact op_isN pins s σ H x _ v u Q I rx ry ⟨rfl, h⟩
    · exact op_isBl pins s σ H _ _ v u Q I rx ry ⟨a, b, rfl, rfl, h⟩
  | isnot =>
    intro pins s σ H x y v u Q I rx ry ⟨io, st, p, q, c, S, hp, hq, e, h⟩
    obtain ⟨c', e', rfl⟩ := Option.map_eq_some_iff.mp e
    rcases isV_ok hp hq e' with ⟨rfl, rfl⟩ | ⟨a, b, rfl, rfl, rfl⟩
    · exact op_notN pins s σ H x _ v u Q I rx ry ⟨rfl, h⟩
    · exact op_notBl pins s σ H _ _ v u Q I rx ry ⟨a, b, rfl, rfl, h⟩
  | lt =>
    intro pins s σ H x y v u Q I rx ry ⟨io, st, p, q, c, S, hp, hq, e, h⟩
    simp only [cop] at e
    split at e
    · cases hp; cases hq; cases e
      exact op_lt pins s σ H _ _ v u Q I rx ry ⟨_, _, rfl, rfl, h⟩
    · cases e
  | le =>
    intro pins s σ H x y v u Q I rx ry ⟨io, st, p, q, c, S, hp, hq, e, h⟩
    simp only [cop] at e
    split at e
    · cases hp; cases hq; cases e
      exact op_le pins s σ H _ _ v u Q I rx ry ⟨_, _, rfl, rfl, h⟩
    · cases e
  | gt =>
    intro pins s σ H x y v u Q I rx ry ⟨io, st, p, q, c, S, hp, hq, e, h⟩
    simp only [cop] at e
    split at e
    · cases hp; cases hq; cases e
      exact op_gt pins s σ H _ _ v u Q I rx ry ⟨_, _, rfl, rfl, h⟩
    · cases e
  | ge =>
    intro pins s σ H x y v u Q I rx ry ⟨io, st, p, q, c, S, hp, hq, e, h⟩
    simp only [cop] at e
    split at e
    · cases hp; cases hq; cases e
      exact op_ge pins s σ H _ _ v u Q I rx ry ⟨_, _, rfl, rfl, h⟩
    · cases e
theorem tru_rep {io : Io} {H : Hp} {st : Store} {p : PV} {x : V} {b : Bool} (S : SRp g io H st) (hp : Rep g io H p x) (e : truth st p = some b) : TruV g.K x H b := by
  cases hp with
  | non => cases e; rfl
  | bl _ => cases e; rfl
  | int _ => cases e; rfl
  | str z =>
    simp only [truth] at e
    split at e
    · rename_i hz
      cases e
      refine ⟨szOk_iff.mp hz, ?_⟩
      cases h : z.length <;> simp_all
      omega
    · cases e
  | tup z q =>
    cases e
    refine .inr (.inl ⟨_, SqT.of z, ?_⟩)
    cases q <;> rfl
  | lst n z q =>
    cases e
    refine .inl ⟨_, SqL.of z, ?_⟩
    cases q <;> rfl
  | ref z =>
    obtain ⟨o, h1, h2⟩ := S.find z
    simp only [truth, h1] at e
    cases h2 with
    | lst y q =>
      cases e
      refine .inl ⟨_, SqL.of y, ?_⟩
      cases q <;> rfl
    | dicK y _ q => cases e
    | dicT y _ q => cases e
    | ins y _ _ q => cases e
  | _ => cases e
end
end Mini

set_option Elab.async false
set_option linter.all false
set_option maxRecDepth 100000
/-! Mini4: what a loop walks: lists and tuples, ranges, pairs of zip and enumerate over any mix of both. -/
namespace Mini
open PySem L2

/-- a tuple (k) or a list, to be read -/
def SqK (k : Bool) (K : PySem.W.Frag) (H : Hp) (a : Addr) (xs : List V) : Prop := if k then SqT K H a xs else SqL K H a xs
def isq (k : Bool) (h : Heap) (a : Addr) (its : Array Value) : Prop := if k then h.IsTuple a its else h.IsList a its
def isit (k : Bool) (h : Heap) (i a : Addr) (n : Nat) : Prop := if k then h.IsTupleIter i a n else h.IsListIter i a n
section
variable {k k1 k2 : Bool}
theorem isit.obj {h : Heap} {i a : Addr} {n : Nat} (x : isit k h i a n) : ∃ o, h.get? i = some o ∧ ∀ v, o.data ≠ .cell v := by
  cases k with
  | true => obtain ⟨o, ho, hc, hd⟩ := x; exact ⟨o, ho, fun v q => by rw [hd] at q; cases q⟩
  | false => obtain ⟨o, ho, hc, hd⟩ := x; exact ⟨o, ho, fun v q => by rw [hd] at q; cases q⟩
theorem isit.keep {h h' : Heap} {i a : Addr} {n : Nat} (x : isit k h i a n) (e : ∀ o, h.get? i = some o → h'.get? i = some o) : isit k h' i a n := by
  cases k with
  | true => exact Heap.IsTupleIter.at x e
  | false => exact Heap.IsListIter.at x e
theorem isq.keep {h h' : Heap} {a : Addr} {its : Array Value} (x : isq k h a its) (e : ∀ o, h.get? a = some o → h'.get? a = some o) : isq k h' a its := by
  cases k with
  | true => exact Heap.IsTuple.at x e
  | false => exact Heap.IsList.at x e
theorem isq.lt {h : Heap} {a : Addr} {its : Array Value} (x : isq k h a its) : a < h.objs.size := by
  cases k with
  | true => obtain ⟨o, ho, _⟩ := x; exact Heap.lt_size ho
  | false => obtain ⟨o, ho, _⟩ := x; exact Heap.lt_size ho
theorem isq_ne {h : Heap} {i a c : Addr} {n : Nat} {its : Array Value} {k' : Bool} (x : isq k h a its) (y : isit k' h i c n) : a ≠ i := fun e => by
  subst e
  cases k <;> cases k' <;> (obtain ⟨o, ho, hc, _⟩ := x; obtain ⟨o', ho', hc', _⟩ := y; rw [ho] at ho'; cases ho'; rw [hc] at hc'; simp at hc')
/-- a new iterator's object -/
def itO (k : Bool) (a : Addr) : Obj := if k then { cls := .type "tuple_iterator", data := .fields #[.ref a, .int 0 0] } else { cls := .type "list_iterator", data := .fields #[.ref a, .int 0 0] }
theorem itO_is {h : Heap} {i a : Addr} (e : h.get? i = some (itO k a)) : isit k h i a 0 := by
  cases k with
  | true => exact ⟨_, e, rfl, rfl⟩
  | false => exact ⟨_, e, rfl, rfl⟩
theorem begins_sq (a : Addr) (its : Array Value) : Begins (.ref a) (itO k a) (fun h => isq k h a its) := by
  cases k with
  | true => exact begins_tuple a its
  | false => exact begins_list a its
theorem draws_sq {prog : Program} {w : World} {A : Around} (hh : A.handled = none) (i a : Addr) (hne : a ≠ i) (its : Array Value) :
    Draws prog w A i [i, a] its.size (fun n v => its[n]? = some v) (fun n h => isit k h i a n ∧ isq k h a its) := by
  cases k with
  | true => exact Draws.tuple hh i a hne its
  | false => exact Draws.list hh i a hne its
theorem inv_sq {X : Cx} {pins : List (Addr × Obj)} {σ : St} {H : Hp} {s : Shared} {a : Addr} {xs : List V} (I : Inv X pins σ H s) (h : SqK k X.K H a xs) : ∃ its : List Value, Vals xs its ∧ isq k s.heap a its.toArray := by
  cases k with
  | true =>
    obtain ⟨its, r, p, _⟩ := I.tuple h
    exact ⟨its, r, p⟩
  | false =>
    obtain ⟨its, r, p, _⟩ := I.list h
    exact ⟨its, r, p.isList⟩
theorem inv_sq_inj {X : Cx} {pins : List (Addr × Obj)} {σ : St} {H : Hp} {s : Shared} {a : Addr} {xs ys : List V} (I : Inv X pins σ H s) (h : SqK k X.K H a xs) (h' : SqK k X.K H a ys) : xs = ys := by
  cases k with
  | true => exact I.tuple_inj h h'
  | false => exact I.list_inj h h'
end

/-- the pairs of a zip, as the lists stand at each turn -/
def ItzM (k1 k2 : Bool) (K : PySem.W.Frag) (a b : Addr) : L2.It :=
  ⟨fun i H => ∃ (xs ys : List V) (x y : V), SqK k1 K H a xs ∧ SqK k2 K H b ys ∧ xs[i]? = some x ∧ ys[i]? = some y,
    fun i H v H' => ∃ T x y, v = .ref T ∧ H T = none ∧ H' = upd H T (.tup [x, y]) ∧ (∀ xs, SqK k1 K H a xs → xs[i]? = some x) ∧ ∀ ys, SqK k2 K H b ys → ys[i]? = some y,
    fun i H => ∃ xs ys : List V, SqK k1 K H a xs ∧ SqK k2 K H b ys ∧ i = min xs.length ys.length⟩
/-- the pairs of an enumerate -/
def IteM (k : Bool) (K : PySem.W.Frag) (a : Addr) : L2.It :=
  ⟨fun i H => ∃ (xs : List V) (x : V), SqK k K H a xs ∧ xs[i]? = some x,
    fun i H v H' => ∃ T x, v = .ref T ∧ H T = none ∧ H' = upd H T (.tup [.int (i : Nat), x]) ∧ ∀ xs, SqK k K H a xs → xs[i]? = some x,
    fun i H => ∃ xs : List V, SqK k K H a xs ∧ i = xs.length⟩
theorem vals_lt {xs : List V} {its : List Value} (r : Vals xs its) {i : Nat} {x : V} (h : xs[i]? = some x) : i < its.toArray.size := by
  have := (List.getElem?_eq_some_iff.mp h).1
  have e := r.length
  simp only [List.size_toArray]
  omega
theorem vals_get {xs : List V} {its : List Value} (r : Vals xs its) {i : Nat} {x : V} {u : Value} (h : xs[i]? = some x) (hu : its.toArray[i]? = some u) : RelV x u := by
  obtain ⟨u', h1, h2⟩ := r.get h
  have e : its.toArray[i]? = its[i]? := by simp
  rw [e, h1] at hu
  cases hu
  exact h2
theorem fresh_of {X : Cx} {pins : List (Addr × Obj)} {σ : St} {H : Hp} {s : Shared} (I : Inv X pins σ H s) {a : Addr} {its : Array Value} {k : Bool} (h : isq k s.heap a its) {T : Addr} (hT : s.heap.objs.size ≤ T) : T ≠ a :=
  Nat.ne_of_gt (Nat.lt_of_lt_of_le h.lt hT)
theorem turn_zipM {k1 k2 : Bool} {P : Program} {w : World} {K : PySem.W.Frag} {elts : List Expr} {kk : Nat} {tpos : Pos} {a b z TI TO i1 i2 : Addr} (S : ZipSep2 z TI TO i1 i2 [i1, a] [i2, b]) :
    Turn P w K (.Tuple elts kk tpos) (ItzM k1 k2 K a b) [z, TI, TO, i1, i2] z (fun i h => IsZip h z TI TO .none ∧ IsTupOf2 h TI (.ref i1) (.ref i2) ∧ (∃ x y, IsTupOf2 h TO x y) ∧ isit k1 h i1 a i ∧ isit k2 h i2 b i) where
  mem := by simp
  obj := fun i h st c hc => by
    obtain ⟨hz, hTI, ⟨x, y, hTO⟩, h1, h2⟩ := st
    have e' : c = z ∨ c = TI ∨ c = TO ∨ c = i1 ∨ c = i2 := by simpa using hc
    rcases e' with q | q | q | q | q <;> subst q
    · exact ⟨_, hz, fun v q => nomatch q⟩
    · exact ⟨_, hTI, fun v q => nomatch q⟩
    · exact ⟨_, hTO, fun v q => nomatch q⟩
    · exact h1.obj
    · exact h2.obj
  keep := fun i h h' st k => by
    obtain ⟨hz, hTI, ⟨x, y, hTO⟩, h1, h2⟩ := st
    exact ⟨k z (by simp) _ hz, k TI (by simp) _ hTI, ⟨x, y, k TO (by simp) _ hTO⟩, h1.keep fun o q => k i1 (by simp) o q, h2.keep fun o q => k i2 (by simp) o q⟩
  item := by
    intro X hP hw hK hc i pins s σ H E I hf st hg
    subst hP hw hK
    obtain ⟨hz, hTI, hTO, h1, h2⟩ := st
    obtain ⟨xs, ys, x, y, hqx, hqy, hx, hy⟩ := hg
    obtain ⟨its, rv, p⟩ := inv_sq I hqx
    obtain ⟨its2, rv2, p2⟩ := inv_sq I hqy
    have hh := I.ok.hd hc
    have ne1 : a ≠ i1 := isq_ne p h1
    have ne2 : b ≠ i2 := isq_ne p2 h2
    have lt1 := vals_lt rv hx
    have lt2 := vals_lt rv2 hy
    have W := GoesN.zip2 (prog := X.prog) (w := X.w) (A := X.A) (elts := elts) (x1 := kk) (pos := tpos) S (draws_sq (k := k1) (A := X.A.in1) hh i1 a ne1 its.toArray) (draws_sq (k := k2) (A := X.A.in1) hh i2 b ne2 its2.toArray)
    refine W.goes i s (fun u s2 => ∃ x H', Inv X pins σ H' s2 ∧ RelV x u ∧ (ItzM k1 k2 X.K a b).yld i H x H' ∧ _ ∧ ∀ b ∈ [z, TI, TO, i1, i2], H' b = none) E (by omega) ⟨hz, hTI, hTO, ⟨h1, p⟩, ⟨h2, p2⟩⟩ fun v h' tk hY st' hk _ => ?_
    obtain ⟨T, u, u2, ev, hT, hu, hu2, hTup⟩ := hY
    obtain ⟨hz', hTI', hTO', ⟨h1', _⟩, ⟨h2', _⟩⟩ := st'
    subst ev
    have hb : ∀ c ∈ [z, TI, TO, i1, i2], c < s.heap.objs.size := fun c hc => by
      have e' : c = z ∨ c = TI ∨ c = TO ∨ c = i1 ∨ c = i2 := by simpa using hc
      rcases e' with q | q | q | q | q <;> subst q
      · exact Heap.lt_size hz
      · exact Heap.lt_size hTI
      · obtain ⟨_, _, q⟩ := hTO; exact Heap.lt_size q
      · obtain ⟨_, q, _⟩ := h1.obj; exact Heap.lt_size q
      · obtain ⟨_, q, _⟩ := h2.obj; exact Heap.lt_size q
    have new : ObjOk X.prog X.w (upd H T (.tup [x, y])) h' T (.tup [x, y]) :=
      ⟨by show 2 ≤ sizeLine; rw [sizeLine_eq]; omega, [u, u2], .cons (vals_get rv hx hu) (.cons (vals_get rv2 hy hu2) .nil), hTup⟩
    have nT : H T = none := I.hok.fresh hT
    have I1 : Inv X pins σ (upd H T (.tup [x, y])) { s with heap := h', toks := tk } := I.turnedNew (ch := [z, TO, i1, i2]) (fun c o hc e => hk c o hc e) (fun c hc => hf c (by
      have e' : c = z ∨ c = TO ∨ c = i1 ∨ c = i2 := by simpa using hc
      rcases e' with q | q | q | q <;> (subst q; simp))) hT new
    refine ⟨.ref T, _, I1, rfl, ⟨T, x, y, rfl, nT, rfl, fun l hl => by rw [inv_sq_inj I hl hqx]; exact hx, fun l hl => by rw [inv_sq_inj I hl hqy]; exact hy⟩, ⟨hz', hTI', hTO', h1', h2'⟩, fun c hc => ?_⟩
    rw [upd_ne (Nat.ne_of_lt (Nat.lt_of_lt_of_le (hb c hc) hT))]
    exact (hf c hc).1
  done := by
    intro X hP hw hK hc i pins s σ H E I hf st hg
    subst hP hw hK
    obtain ⟨hz, hTI, hTO, h1, h2⟩ := st
    obtain ⟨xs, ys, hqx, hqy, hend⟩ := hg
    obtain ⟨its, rv, p⟩ := inv_sq I hqx
    obtain ⟨its2, rv2, p2⟩ := inv_sq I hqy
    have hh := I.ok.hd hc
    have W := GoesN.zip2 (prog := X.prog) (w := X.w) (A := X.A) (elts := elts) (x1 := kk) (pos := tpos) S (draws_sq (k := k1) (A := X.A.in1) hh i1 a (isq_ne p h1) its.toArray) (draws_sq (k := k2) (A := X.A.in1) hh i2 b (isq_ne p2 h2) its2.toArray)
    have en : min its.toArray.size its2.toArray.size = i := by
      have l1 := rv.length
      have l2 := rv2.length
      simp only [List.size_toArray]
      omega
    rw [en] at W
    exact W.stops s (fun s2 => Inv X pins σ H s2) E ⟨hz, hTI, hTO, ⟨h1, p⟩, ⟨h2, p2⟩⟩ fun h' tk hk _ => I.turnedL (t' := tk) (ch := [z, TO, i1, i2]) (fun c o hc e => hk c o hc e) fun c hc => hf c (by
      have e' : c = z ∨ c = TO ∨ c = i1 ∨ c = i2 := by simpa using hc
      rcases e' with q | q | q | q <;> (subst q; simp))
  self := fun A i s Q E st h => wpAny_pyIter_zip st.1 h
theorem turn_enumM {k : Bool} {P : Program} {w : World} {K : PySem.W.Frag} {elts : List Expr} {kk : Nat} {tpos : Pos} {a e it : Addr} (hei : e ≠ it) (hea : e ≠ a) :
    Turn P w K (.Tuple elts kk tpos) (IteM k K a) [e, it] e (fun i h => (∃ old, IsEnum h e it (0 + (i : Int)) old) ∧ isit k h it a i) where
  mem := by simp
  obj := fun i h st c hc => by
    obtain ⟨⟨old, he⟩, h1⟩ := st
    have e' : c = e ∨ c = it := by simpa using hc
    rcases e' with q | q <;> subst q
    · exact ⟨_, he, fun v q => nomatch q⟩
    · exact h1.obj
  keep := fun i h h' st k => by
    obtain ⟨⟨old, he⟩, h1⟩ := st
    exact ⟨⟨old, k e (by simp) _ he⟩, h1.keep fun o q => k it (by simp) o q⟩
  item := by
    intro X hP hw hK hc i pins s σ H E I hf st hg
    subst hP hw hK
    obtain ⟨he, h1⟩ := st
    obtain ⟨xs, x, hq, hx⟩ := hg
    obtain ⟨its, rv, p⟩ := inv_sq I hq
    have hh := I.ok.hd hc
    have ne : a ≠ it := isq_ne p h1
    have W := GoesN.enumFrom (prog := X.prog) (w := X.w) (A := X.A) (elts := elts) (x1 := kk) (pos := tpos) 0 (draws_sq (k := k) (A := X.A.in1) hh it a ne its.toArray) e hei (by simp [hei, hea]) (by simp)
    refine W.goes i s (fun u s2 => ∃ x H', Inv X pins σ H' s2 ∧ RelV x u ∧ (IteM k X.K a).yld i H x H' ∧ _ ∧ ∀ b ∈ [e, it], H' b = none) E (vals_lt rv hx) ⟨he, h1, p⟩ fun v h' tk hY st' hk _ => ?_
    obtain ⟨T, t, u, ev, hT, hu, hTup⟩ := hY
    obtain ⟨he', h1', _⟩ := st'
    subst ev
    have hb : ∀ c ∈ [e, it], c < s.heap.objs.size := fun c hc => by
      have e' : c = e ∨ c = it := by simpa using hc
      rcases e' with q | q <;> subst q
      · obtain ⟨_, q⟩ := he; exact Heap.lt_size q
      · obtain ⟨_, q, _⟩ := h1.obj; exact Heap.lt_size q
    have e0 : (0 : Int) + (i : Int) = ((i : Nat) : Int) := by omega
    rw [e0] at hTup
    have new : ObjOk X.prog X.w (upd H T (.tup [.int (i : Nat), x])) h' T (.tup [.int (i : Nat), x]) :=
      ⟨by show 2 ≤ sizeLine; rw [sizeLine_eq]; omega, [.int (i : Nat) t, u], .cons ⟨_, rfl⟩ (.cons (vals_get rv hx hu) .nil), hTup⟩
    have nT : H T = none := I.hok.fresh hT
    have I1 : Inv X pins σ (upd H T (.tup [.int (i : Nat), x])) { s with heap := h', toks := tk } := I.turnedNew (ch := [e, it]) (fun c o hc e => hk c o hc e) hf hT new
    refine ⟨.ref T, _, I1, rfl, ⟨T, x, rfl, nT, rfl, fun l hl => by rw [inv_sq_inj I hl hq]; exact hx⟩, ⟨he', h1'⟩, fun c hc => ?_⟩
    rw [upd_ne (Nat.ne_of_lt (Nat.lt_of_lt_of_le (hb c hc) hT))]
    exact (hf c hc).1
  done := by
    intro X hP hw hK hc i pins s σ H E I hf st hg
    subst hP hw hK
    obtain ⟨he, h1⟩ := st
    obtain ⟨xs, hq, hend⟩ := hg
    obtain ⟨its, rv, p⟩ := inv_sq I hq
    have hh := I.ok.hd hc
    have W := GoesN.enumFrom (prog := X.prog) (w := X.w) (A := X.A) (elts := elts) (x1 := kk) (pos := tpos) 0 (draws_sq (k := k) (A := X.A.in1) hh it a (isq_ne p h1) its.toArray) e hei (by simp [hei, hea]) (by simp)
    have en : its.toArray.size = i := by
      have l1 := rv.length
      simp only [List.size_toArray]
      omega
    rw [en] at W
    exact W.stops s (fun s2 => Inv X pins σ H s2) E ⟨he, h1, p⟩ fun h' tk hk _ => I.turnedL (t' := tk) (ch := [e, it]) (fun c o hc e => hk c o hc e) hf
  self := fun A i s Q E st h => let ⟨⟨_, he⟩, _⟩ := st; wpAny_pyIter_enum he h

/-! ### how they begin -/
def iZipM (K : PySem.W.Frag) (ta : TA) : TI := fun σ H R => ta σ H fun vs H1 => ∃ (k1 k2 : Bool) (a b : Addr) (xs ys : List V), vs = [.ref a, .ref b] ∧ SqK k1 K H1 a xs ∧ SqK k2 K H1 b ys ∧ R (ItzM k1 k2 K a b) H1
theorem pi_zipM {X : Cx} {e e2 : Expr} {ta : TA} {p pos tpos : Pos} {elts : List Expr} {kk : Nat} (hg : Gl X "zip") (hm : X.mg "zip" = none) (ha : PA X [e, e2] ta)
    (hs : starEach [e, e2] X.env = (false, eval e X.env) :: starEach [e2] X.env) (hpl : (backTo pos (starEach [e2] X.env)).any (·.1) = false) :
    PI X (.Tuple elts kk tpos) (.Call (.Name "zip" p) [e, e2] [] pos) (iZipM X.K ta) := by
  refine ⟨fun pins s σ H R I h => ?_⟩
  refine PyProof.Rows.Call_ (ld_blt I hg hm PyProof.Rows.boot_zip (PyProof.Rows.callWith_type1 (thn (ha.run pos pins s σ H _ I h) fun us s1 ⟨vs, H1, I1, r1, q1⟩ => ?_) hs hpl))
  obtain ⟨k1, k2, a, b, xs, ys, ex, hqx, hqy, q⟩ := q1
  subst ex
  obtain ⟨u1, u2, rfl, r, r'⟩ := Vals.two r1
  cases r
  cases r'
  obtain ⟨its, rv, p1⟩ := inv_sq I1 hqx
  obtain ⟨its2, rv2, p2⟩ := inv_sq I1 hqy
  refine zip_begins2 (begins_sq a its.toArray) (begins_sq b its2.toArray) p1 p2 fun h' hz hTI hTO g1 g2 _ hk => wpAny_pyIter_zip hz ?_
  have I2 : Inv X pins σ H1 { s1 with heap := h' } := I1.kept (t' := s1.toks) hk
  have la := p1.lt
  have lb := p2.lt
  have S : ZipSep2 (s1.heap.objs.size + 4) (s1.heap.objs.size + 2) (s1.heap.objs.size + 3) s1.heap.objs.size (s1.heap.objs.size + 1) [s1.heap.objs.size, a] [s1.heap.objs.size + 1, b] :=
    zip_sep2 (fun c hc => by rw [List.mem_singleton.mp hc]; exact la) (fun c hc => by rw [List.mem_singleton.mp hc]; exact lb)
  refine ⟨s1.heap.objs.size + 4, [s1.heap.objs.size + 4, s1.heap.objs.size + 2, s1.heap.objs.size + 3, s1.heap.objs.size, s1.heap.objs.size + 1], _, _, H1, rfl, I2, turn_zipM S, ⟨hz, hTI, ⟨_, _, hTO⟩, itO_is g1, itO_is g2⟩, fun c hc => ?_, q⟩
  have hle : s1.heap.objs.size ≤ c := by
    have e' : c = s1.heap.objs.size + 4 ∨ c = s1.heap.objs.size + 2 ∨ c = s1.heap.objs.size + 3 ∨ c = s1.heap.objs.size ∨ c = s1.heap.objs.size + 1 := by simpa using hc
    rcases e' with z | z | z | z | z <;> (rw [z]; first | exact Nat.le_refl _ | exact Nat.le_add_right _ _)
  exact I1.fpOk hle (I1.hok.fresh hle)
def iEnumM (K : PySem.W.Frag) (ta : TA) : TI := fun σ H R => ta σ H fun vs H1 => ∃ (k : Bool) (a : Addr) (xs : List V), vs = [.ref a] ∧ SqK k K H1 a xs ∧ R (IteM k K a) H1
theorem meets_enum_new1 {v : Value} {o : Obj} {H : Heap → Prop} (B : Begins v o H) :
    Meets (Builtin.«enumerate.__new__» ⟨[.type "enumerate", v], []⟩) (fun _ R s => H s.heap ∧
      R (.ok (.ret (.ref (s.heap.push o).objs.size))) { s with heap := (s.heap.push o).push { cls := .type "enumerate", data := .fields #[.none, .bool false, .ref s.heap.objs.size, rawInt 0, .none, .none] } }) :=
  .of_wp fun prog w A R s h => by
    obtain ⟨hp, g, d, tk, os⟩ := s; obtain ⟨h1, h⟩ := h
    have hsub := sub_enumerate
    have q1 : ∀ {A' : Around} {E : Value → Shared → Prop} {Q : Value → Shared → Prop}, Q (.ref hp.objs.size) ⟨hp.push o, g, d, tk, os⟩ → wpAny (model prog w) A' (pyIter v) Q E ⟨hp, g, d, tk, os⟩ :=
      fun q => B.iter prog w _ _ ⟨hp, g, d, tk, os⟩ _ h1 q
    wp_walk using q1
    refine wpAny_stack_any fun st => wpAny_pure ?_
    split
    case h_1 c _ _ _ _ _ => cases (c == Value.type "enumerate") <;> (wp_walk using q1; exact ⟨_, rfl, h⟩)
    case h_2 => wp_walk using q1; exact ⟨_, rfl, h⟩
theorem enum_begins1 {prog : Program} {w : World} {A : Around} {E : Value → Shared → Prop} {s : Shared} {v : Value} {o : Obj} {H : Heap → Prop} {Q : Value → Shared → Prop} (B : Begins v o H) (h1 : H s.heap)
    (h : ∀ h', IsEnum h' (s.heap.objs.size + 1) s.heap.objs.size 0 .none → h'.get? s.heap.objs.size = some o →
      (∀ b o, s.heap.get? b = some o → h'.get? b = some o) → Q (.ref (s.heap.objs.size + 1)) { s with heap := h' }) :
    wpAny (model prog w) A (call (.type "enumerate") [v]) Q E s := by
  refine callType_new F.called_enumerate (by decide) (F.typeCall_enumerate_1 _) (F.newCall_enumerate_1 _) (fun obj => F.args_object_init_2 obj _) F.entry_enumerate_new (meets_enum_new1 B) ⟨h1, ?_⟩
  have hz : (s.heap.push o).objs.size = s.heap.objs.size + 1 := Heap.size_push ..
  show _ ∧ _
  rw [hz]
  have he : IsEnum ((s.heap.push o).push { cls := .type "enumerate", data := .fields #[.none, .bool false, .ref s.heap.objs.size, rawInt 0, .none, .none] }) (s.heap.objs.size + 1) s.heap.objs.size 0 .none := by
    have := Heap.get?_push_size (s.heap.push o) (o := { cls := .type "enumerate", data := .fields #[.none, .bool false, .ref s.heap.objs.size, rawInt 0, .none, .none] }) rfl
    rw [hz] at this; exact this
  exact ⟨⟨_, he, rfl⟩, h _ he (Heap.get?_push_of_some _ (Heap.get?_push_size _ B.free)) fun b o x => Heap.get?_push_of_some _ (Heap.get?_push_of_some _ x)⟩
theorem pi_enumM {X : Cx} {e : Expr} {ta : TA} {p pos tpos : Pos} {elts : List Expr} {kk : Nat} (hg : Gl X "enumerate") (hm : X.mg "enumerate" = none) (ha : PA X [e] ta)
    (hs : starEach [e] X.env = (false, eval e X.env) :: starEach [] X.env) :
    PI X (.Tuple elts kk tpos) (.Call (.Name "enumerate" p) [e] [] pos) (iEnumM X.K ta) := by
  refine ⟨fun pins s σ H R I h => ?_⟩
  refine PyProof.Rows.Call_ (ld_blt I hg hm PyProof.Rows.boot_enumerate (PyProof.Rows.callWith_type1 (thn (ha.run pos pins s σ H _ I h) fun us s1 ⟨vs, H1, I1, r1, q1⟩ => ?_) hs rfl))
  obtain ⟨k, a, xs, ex, hq, q⟩ := q1
  subst ex
  obtain ⟨u1, rfl, r⟩ := Vals.one r1
  cases r
  obtain ⟨its, rv, p1⟩ := inv_sq I1 hq
  refine enum_begins1 (begins_sq a its.toArray) p1 fun h' he g1 hk => wpAny_pyIter_enum he ?_
  have I2 : Inv X pins σ H1 { s1 with heap := h' } := I1.kept (t' := s1.toks) hk
  have la := p1.lt
  refine ⟨s1.heap.objs.size + 1, [s1.heap.objs.size + 1, s1.heap.objs.size], _, _, H1, rfl, I2, turn_enumM (k := k) (a := a) (it := s1.heap.objs.size) (Nat.succ_ne_self _) (Nat.ne_of_gt (Nat.lt_succ_of_lt la)), ⟨⟨.none, ?_⟩, itO_is g1⟩, fun c hc => ?_, q⟩
  · have e0 : (0 : Int) + ((0 : Nat) : Int) = 0 := by omega
    rw [e0]; exact he
  · have hle : s1.heap.objs.size ≤ c := by
      have e' : c = s1.heap.objs.size + 1 ∨ c = s1.heap.objs.size := by simpa using hc
      rcases e' with z | z <;> (rw [z]; first | exact Nat.le_refl _ | exact Nat.le_add_right _ _)
    exact I1.fpOk hle (I1.hok.fresh hle)
end Mini

set_option Elab.async false
set_option linter.all false
set_option maxRecDepth 100000
/-! Mini5: walks, built-ins, methods, subscripts: their readings. -/
namespace Mini
open PySem L2

/-! ### walks -/
structure WalkM (g : G) (J : L2.It) (w : Walk) (io : Io) (H : Hp) : Prop where
  go : ∀ io' H' st i, Mv g io H io' H' → SRp g io' H' st → stays w.2 st = true → i < w.1.length →
    J.go i H' ∧ ∀ x H'', J.yld i H' x H'' → Gr io' H' io' H'' ∧ SRp g io' H'' st ∧ ∃ p, w.1[i]? = some p ∧ Rep g io' H'' p x
  stop : ∀ io' H' st, Mv g io H io' H' → SRp g io' H' st → stays w.2 st = true → J.stop w.1.length H'
theorem stays_app {a b : List (Nat × List PV)} {s : Store} : stays (a ++ b) s = true ↔ stays a s = true ∧ stays b s = true := by
  unfold stays
  rw [List.all_append, Bool.and_eq_true_iff]
theorem seq_later {g : G} {io : Io} {H : Hp} {s0 : Store} {p : PV} {x : V} {ps : List PV} (S : SRp g io H s0) (h : Rep g io H p x) (e : seqOf s0 p = some ps) :
    ∃ (a : Addr) (k : Bool), x = .ref a ∧ ∀ io' H' st, Mv g io H io' H' → SRp g io' H' st → stays (watch s0 p) st = true → ∃ xs, SqK k g.K H' a xs ∧ Reps g io' H' ps xs := by
  cases h with
  | tup z q => cases e; exact ⟨_, true, rfl, fun io' H' st r _ _ => ⟨_, SqT.of (r.tup _ _ z), q.mv r⟩⟩
  | lst n z q => cases e; exact ⟨_, false, rfl, fun io' H' st r _ _ => ⟨_, SqL.of (r.ext _ _ n z).2, q.mv r⟩⟩
  | scr z q =>
    cases e
    refine ⟨_, false, rfl, fun io' H' st r _ _ => ⟨_, ?_, q.mv r⟩⟩
    rcases z with ⟨n, z⟩ | z
    · exact .inl (r.rd n z).2
    · exact .inr z
  | ref z =>
    rename_i n a
    obtain ⟨o, h1, h2⟩ := S.find z
    simp only [seqOf, h1] at e
    cases h2 with
    | lst y q =>
      rename_i qs xs
      cases e
      refine ⟨a, false, rfl, fun io' H' st r S' w => ?_⟩
      simp only [watch, h1, stays, List.all_cons, List.all_nil, Bool.and_true] at w
      obtain ⟨o', h3, h4⟩ := S'.find (r.at_ _ _ z)
      rw [h3] at w
      cases h4 with
      | lst y' q' =>
        rename_i qs' xs'
        have e' : ps = qs' := peqs_ok _ _ w
        subst e'
        exact ⟨xs', SqL.of y', q'⟩
      | dicK _ _ _ => cases w
      | dicT _ _ _ => cases w
      | ins _ _ _ _ => cases w
    | dicK y _ q => cases e
    | dicT y _ q => cases e
    | ins y _ _ q => cases e
  | _ => cases e
theorem walkM_list {g : G} {io : Io} {H : Hp} {a : Addr} {ps : List PV} {wt : List (Nat × List PV)} (h : ∀ io' H' st, Mv g io H io' H' → SRp g io' H' st → stays wt st = true → ∃ xs, SqL g.K H' a xs ∧ Reps g io' H' ps xs) :
    WalkM g (Itl g.K a) (ps, wt) io H := by
  refine ⟨fun io' H' st i r S w hi => ?_, fun io' H' st r S w => ?_⟩
  · obtain ⟨xs, hx, q⟩ := h io' H' st r S w
    obtain ⟨x, h1, h2⟩ := q.get (List.getElem?_eq_getElem hi)
    refine ⟨⟨xs, x, hx, h1⟩, fun y H'' hy => ?_⟩
    obtain ⟨rfl, hy⟩ := hy
    have e := hy xs hx
    rw [h1] at e; cases e
    exact ⟨Gr.refl _ _, S, _, List.getElem?_eq_getElem hi, h2⟩
  · obtain ⟨xs, hx, q⟩ := h io' H' st r S w
    exact ⟨xs, hx, by rw [q.length]; exact Nat.le_refl _⟩
theorem walkM_tup {g : G} {io : Io} {H : Hp} {a : Addr} {ps : List PV} {wt : List (Nat × List PV)} (h : ∀ io' H' st, Mv g io H io' H' → SRp g io' H' st → stays wt st = true → ∃ xs, SqT g.K H' a xs ∧ Reps g io' H' ps xs) :
    WalkM g (Itt g.K a) (ps, wt) io H := by
  refine ⟨fun io' H' st i r S w hi => ?_, fun io' H' st r S w => ?_⟩
  · obtain ⟨xs, hx, q⟩ := h io' H' st r S w
    obtain ⟨x, h1, h2⟩ := q.get (List.getElem?_eq_getElem hi)
    refine ⟨⟨xs, x, hx, h1⟩, fun y H'' hy => ?_⟩
    obtain ⟨rfl, hy⟩ := hy
    have e := hy xs hx
    rw [h1] at e; cases e
    exact ⟨Gr.refl _ _, S, _, List.getElem?_eq_getElem hi, h2⟩
  · obtain ⟨xs, hx, q⟩ := h io' H' st r S w
    exact ⟨xs, hx, by rw [q.length]; exact Nat.le_refl _⟩
theorem rngV_length (i j : Int) : (rngV i j).length = (j - i).toNat := by unfold rngV; rw [List.length_map, List.length_range]
theorem walkM_rng {g : G} {io : Io} {H : Hp} {i j : Int} : WalkM g (Itr i (j - i).toNat) (rngV i j, []) io H := by
  refine ⟨fun io' H' st n r S w hi => ?_, fun io' H' st r S w => ?_⟩
  · rw [rngV_length] at hi
    refine ⟨hi, fun y H'' hy => ?_⟩
    obtain ⟨rfl, rfl⟩ := hy
    refine ⟨Gr.refl _ _, S, .int (i + (n : Nat)), ?_, .int _⟩
    show ((List.range (j - i).toNat).map fun k => PV.int (i + (k : Nat)))[n]? = _
    rw [List.getElem?_map, List.getElem?_range hi]
    rfl
  · show (j - i).toNat ≤ (rngV i j).length
    rw [rngV_length]
    exact Nat.le_refl _
theorem zipV_get {ps qs : List PV} {i : Nat} {p q : PV} (h1 : ps[i]? = some p) (h2 : qs[i]? = some q) : (zipV ps qs)[i]? = some (.tup [p, q]) := by
  unfold zipV
  rw [List.getElem?_zipWith, h1, h2]
theorem zipV_length (ps qs : List PV) : (zipV ps qs).length = min ps.length qs.length := by unfold zipV; rw [List.length_zipWith]
theorem walkM_zip {g : G} {io : Io} {H : Hp} {a b : Addr} {k1 k2 : Bool} {ps qs : List PV} {w1 w2 : List (Nat × List PV)}
    (h1 : ∀ io' H' st, Mv g io H io' H' → SRp g io' H' st → stays w1 st = true → ∃ xs, SqK k1 g.K H' a xs ∧ Reps g io' H' ps xs)
    (h2 : ∀ io' H' st, Mv g io H io' H' → SRp g io' H' st → stays w2 st = true → ∃ xs, SqK k2 g.K H' b xs ∧ Reps g io' H' qs xs) :
    WalkM g (ItzM k1 k2 g.K a b) (zipV ps qs, w1 ++ w2) io H := by
  refine ⟨fun io' H' st i r S w hi => ?_, fun io' H' st r S w => ?_⟩
  · obtain ⟨z1, z2⟩ := stays_app.mp w
    obtain ⟨xs, hx, q1⟩ := h1 io' H' st r S z1
    obtain ⟨ys, hy, q2⟩ := h2 io' H' st r S z2
    have hi : i < min ps.length qs.length := by rw [← zipV_length]; exact hi
    have i1 : i < ps.length := by omega
    have i2 : i < qs.length := by omega
    obtain ⟨x, e1, r1⟩ := q1.get (List.getElem?_eq_getElem i1)
    obtain ⟨y, e2, r2⟩ := q2.get (List.getElem?_eq_getElem i2)
    refine ⟨⟨xs, ys, x, y, hx, hy, e1, e2⟩, fun v H'' hv => ?_⟩
    obtain ⟨T, x', y', rfl, nT, rfl, f1, f2⟩ := hv
    have a1 := f1 xs hx
    have a2 := f2 ys hy
    rw [e1] at a1; cases a1
    rw [e2] at a2; cases a2
    have gr : Gr io' H' io' (upd H' T (.tup [x, y])) := Gr.new nT
    exact ⟨gr, S.new nT, _, zipV_get (List.getElem?_eq_getElem i1) (List.getElem?_eq_getElem i2), .tup upd_same (.cons (r1.grow gr S.sto) (.cons (r2.grow gr S.sto) .nil))⟩
  · obtain ⟨z1, z2⟩ := stays_app.mp w
    obtain ⟨xs, hx, q1⟩ := h1 io' H' st r S z1
    obtain ⟨ys, hy, q2⟩ := h2 io' H' st r S z2
    exact ⟨xs, ys, hx, hy, by rw [zipV_length, q1.length, q2.length]⟩
theorem enumV_get {ps : List PV} {i : Nat} {p : PV} (h : ps[i]? = some p) : (enumV ps)[i]? = some (.tup [.int (i : Nat), p]) := by
  unfold enumV
  rw [List.getElem?_map, List.getElem?_zipIdx, h]
  simp
theorem enumV_length (ps : List PV) : (enumV ps).length = ps.length := by unfold enumV; rw [List.length_map, List.length_zipIdx]
theorem walkM_enum {g : G} {io : Io} {H : Hp} {a : Addr} {k : Bool} {ps : List PV} {w1 : List (Nat × List PV)}
    (h1 : ∀ io' H' st, Mv g io H io' H' → SRp g io' H' st → stays w1 st = true → ∃ xs, SqK k g.K H' a xs ∧ Reps g io' H' ps xs) :
    WalkM g (IteM k g.K a) (enumV ps, w1) io H := by
  refine ⟨fun io' H' st i r S w hi => ?_, fun io' H' st r S w => ?_⟩
  · obtain ⟨xs, hx, q1⟩ := h1 io' H' st r S w
    have i1 : i < ps.length := by rw [← enumV_length]; exact hi
    obtain ⟨x, e1, r1⟩ := q1.get (List.getElem?_eq_getElem i1)
    refine ⟨⟨xs, x, hx, e1⟩, fun v H'' hv => ?_⟩
    obtain ⟨T, x', rfl, nT, rfl, f1⟩ := hv
    have a1 := f1 xs hx
    rw [e1] at a1; cases a1
    have gr : Gr io' H' io' (upd H' T (.tup [.int (i : Nat), x])) := Gr.new nT
    exact ⟨gr, S.new nT, _, enumV_get (List.getElem?_eq_getElem i1), .tup upd_same (.cons (.int _) (.cons (r1.grow gr S.sto) .nil))⟩
  · obtain ⟨xs, hx, q1⟩ := h1 io' H' st r S w
    exact ⟨xs, hx, by rw [enumV_length, q1.length]⟩

/-! ### built-ins -/
def biN : Bi → Str
  | .len => "len"
  | .all => "all"
  | .any => "any"
  | .abs => "abs"
  | .tuple => "tuple"
  | .list => "list"
  | .int => "int"
  | .max2 => "max"
  | .min2 => "min"
  | .sorted => "sorted"
  | .max1 => "max"
  | .min1 => "min"
  | .sum => "sum"
  | .repr => "repr"
def biV : Bi → Value
  | .len => .builtin "len"
  | .all => .builtin "all"
  | .any => .builtin "any"
  | .abs => .builtin "abs"
  | .tuple => .type "tuple"
  | .list => .type "list"
  | .int => .type "int"
  | .max2 => .builtin "max"
  | .min2 => .builtin "min"
  | .sorted => .builtin "sorted"
  | .max1 => .builtin "max"
  | .min1 => .builtin "min"
  | .sum => .builtin "sum"
  | .repr => .builtin "repr"
theorem biBoot (b : Bi) : bootBuiltins (biN b) = some (biV b) := by cases b <;> decide +kernel
def rC (g : G) (f : List PV → Store → Option PV) : List V → Hp → VK → Prop := fun xs H Q => ∃ io s ps v, SRp g io H s ∧ Reps g io H ps xs ∧ f ps s = some v ∧ After g io H s v Q
theorem Reps.one {g : G} {io : Io} {H : Hp} {p : PV} {xs : List V} (r : Reps g io H [p] xs) : ∃ x, xs = [x] ∧ Rep g io H p x := by
  cases r with
  | cons h q => cases q; exact ⟨_, rfl, h⟩
theorem Reps.two {g : G} {io : Io} {H : Hp} {p q : PV} {xs : List V} (r : Reps g io H [p, q] xs) : ∃ x y, xs = [x, y] ∧ Rep g io H p x ∧ Rep g io H q y := by
  cases r with
  | cons h r => obtain ⟨y, rfl, h2⟩ := r.one; exact ⟨_, _, rfl, h, h2⟩
theorem blsOf_ok {g : G} {io : Io} {H : Hp} : ∀ {ps : List PV} {xs : List V} {bs : List Bool}, Reps g io H ps xs → blsOf ps = some bs → xs = bs.map V.bl
  | [], _, _, .nil, h => by cases h; rfl
  | p :: ps, _, _, .cons r q, h => by
    cases r with
    | bl b =>
      simp only [blsOf] at h
      obtain ⟨cs, h1, rfl⟩ := Option.map_eq_some_iff.mp h
      rw [blsOf_ok q h1]
      rfl
    | _ => cases h
theorem intsOf_ok {g : G} {io : Io} {H : Hp} : ∀ {ps : List PV} {xs : List V} {ns : List Int}, Reps g io H ps xs → intsOf ps = some ns → xs = ns.map V.int
  | [], _, _, .nil, h => by cases h; rfl
  | p :: ps, _, _, .cons r q, h => by
    cases r with
    | int b =>
      simp only [intsOf] at h
      obtain ⟨cs, h1, rfl⟩ := Option.map_eq_some_iff.mp h
      rw [intsOf_ok q h1]
      rfl
    | _ => cases h
theorem ints_reps {g : G} {io : Io} {H : Hp} : ∀ ns : List Int, Reps g io H (ns.map PV.int) (ns.map V.int)
  | [] => .nil
  | n :: r => .cons (.int n) (ints_reps r)
theorem insI_perm (x : Int) : ∀ l : List Int, (insI x l).Perm (x :: l)
  | [] => .refl _
  | y :: r => by
    unfold insI
    split
    · exact .refl _
    · exact ((insI_perm x r).cons y).trans (.swap x y r)
theorem sortI_perm : ∀ l : List Int, (sortI l).Perm l
  | [] => .refl _
  | x :: r => (insI_perm x (sortI r)).trans ((sortI_perm r).cons x)
theorem insI_sorted (x : Int) : ∀ l : List Int, l.Pairwise (· ≤ ·) → (insI x l).Pairwise (· ≤ ·)
  | [], _ => List.pairwise_singleton _ _
  | y :: r, h => by
    obtain ⟨h1, h2⟩ := List.pairwise_cons.mp h
    unfold insI
    split
    · rename_i hx
      exact List.pairwise_cons.mpr ⟨fun z hz => by
        rcases List.mem_cons.mp hz with e | m
        · rw [e]; exact hx
        · exact Int.le_trans hx (h1 z m), h⟩
    · rename_i hx
      refine List.pairwise_cons.mpr ⟨fun z hz => ?_, insI_sorted x r h2⟩
      rcases List.mem_cons.mp ((insI_perm x r).mem_iff.mp hz) with e | m
      · rw [e]; omega
      · exact h1 z m
theorem sortI_sorted : ∀ l : List Int, (sortI l).Pairwise (· ≤ ·)
  | [] => List.Pairwise.nil
  | x :: r => insI_sorted x _ (sortI_sorted r)
theorem sorted_uniq : ∀ {a b : List Int}, a.Perm b → a.Pairwise (· ≤ ·) → b.Pairwise (· ≤ ·) → a = b
  | [], b, h, _, _ => (List.nil_perm.mp h).symm
  | x :: a, [], h, _, _ => by simp at h
  | x :: a, y :: b, h, h1, h2 => by
    obtain ⟨a1, a2⟩ := List.pairwise_cons.mp h1
    obtain ⟨b1, b2⟩ := List.pairwise_cons.mp h2
    have e : x = y := by
      have m1 : y ∈ x :: a := h.mem_iff.mpr (List.mem_cons_self ..)
      have m2 : x ∈ y :: b := h.mem_iff.mp (List.mem_cons_self ..)
      rcases List.mem_cons.mp m1 with e | m
      · exact e.symm
      · rcases List.mem_cons.mp m2 with e | m'
        · exact e
        · exact Int.le_antisymm (a1 y m) (b1 x m')
    subst e
    rw [sorted_uniq (List.Perm.cons_inv h) a2 b2]
theorem sortI_is {ns ns' : List Int} (h : ns'.Perm ns) (s : ns'.Pairwise (· ≤ ·)) : ns' = sortI ns := sorted_uniq (h.trans (sortI_perm ns).symm) s (sortI_sorted ns)
theorem maxL_ok : ∀ {ns : List Int}, ns ≠ [] → maxL ns ∈ ns ∧ ∀ y ∈ ns, y ≤ maxL ns
  | [], h => absurd rfl h
  | [x], _ => ⟨List.mem_cons_self .., fun y hy => by rw [List.mem_singleton.mp hy]; exact Int.le_refl _⟩
  | x :: y :: r, _ => by
    obtain ⟨h1, h2⟩ := maxL_ok (ns := y :: r) (by simp)
    unfold maxL
    dsimp only
    split
    · rename_i hx
      exact ⟨List.mem_cons_of_mem _ h1, fun z hz => by
        rcases List.mem_cons.mp hz with e | m
        · rw [e]; exact hx
        · exact h2 z m⟩
    · rename_i hx
      exact ⟨List.mem_cons_self .., fun z hz => by
        rcases List.mem_cons.mp hz with e | m
        · rw [e]; exact Int.le_refl _
        · have := h2 z m; omega⟩
theorem minL_ok : ∀ {ns : List Int}, ns ≠ [] → minL ns ∈ ns ∧ ∀ y ∈ ns, minL ns ≤ y
  | [], h => absurd rfl h
  | [x], _ => ⟨List.mem_cons_self .., fun y hy => by rw [List.mem_singleton.mp hy]; exact Int.le_refl _⟩
  | x :: y :: r, _ => by
    obtain ⟨h1, h2⟩ := minL_ok (ns := y :: r) (by simp)
    unfold minL
    dsimp only
    split
    · rename_i hx
      exact ⟨List.mem_cons_of_mem _ h1, fun z hz => by
        rcases List.mem_cons.mp hz with e | m
        · rw [e]; exact hx
        · exact h2 z m⟩
    · rename_i hx
      exact ⟨List.mem_cons_self .., fun z hz => by
        rcases List.mem_cons.mp hz with e | m
        · rw [e]; exact Int.le_refl _
        · have := h2 z m; omega⟩
theorem max_uniq {ns : List Int} (h : ns ≠ []) {m : Int} (h1 : m ∈ ns) (h2 : ∀ y, y ∈ ns → y ≤ m) : m = maxL ns := Int.le_antisymm ((maxL_ok h).2 m h1) (h2 _ (maxL_ok h).1)
theorem min_uniq {ns : List Int} (h : ns ≠ []) {m : Int} (h1 : m ∈ ns) (h2 : ∀ y, y ∈ ns → m ≤ y) : m = minL ns := Int.le_antisymm (h2 _ (minL_ok h).1) ((minL_ok h).2 m h1)
section
variable {X : Cx} {g : G}
theorem callR (hK : X.K = g.K) (hc : X.calm = true) (hgd : X.A.guards = some []) (hu : X.A.units + 64 < cLine) (b : Bi) : CallR X (biV b) (rC g (biF b)) := by
  intro pins s σ H xs us Q I r ⟨io, st, ps, v, S, hr, e, h⟩
  cases b with
  | len =>
    simp only [biF] at e
    unfold lenF at e
    split at e
    · obtain ⟨x, rfl, hx⟩ := hr.one
      cases hx
      split at e
      · rename_i hz
        have hz := szOk_iff.mp hz
        cases e
        exact call_len_str pins s σ H _ us Q I r ⟨_, rfl, hz, h.here S (.int _)⟩
      · cases e
    · obtain ⟨x, rfl, hx⟩ := hr.one
      split at e
      · rename_i t ks vs h1
        cases e
        obtain ⟨a, rfl, d⟩ := rep_dic S hx h1
        cases d with
        | k z l q =>
          rw [List.length_map] at h
          exact call_lenD pins s σ H _ us Q I r ⟨a, _, rfl, z, by rw [zip_len l]; exact h.here S (.int _)⟩
        | t z l q =>
          rw [List.length_map] at h
          exact call_len_dT pins s σ H _ us Q I r ⟨a, _, rfl, z, by rw [zip_len l]; exact h.here S (.int _)⟩
      obtain ⟨qs, e1, rfl⟩ := Option.map_eq_some_iff.mp e
      obtain ⟨a, ys, rfl, hs, hq⟩ := rep_seq S hx e1
      have hs : SqL X.K H a ys ∨ SqT X.K H a ys := hs.imp (fun z => by rw [hK]; exact z) SqT.of
      rw [hq.length] at h
      exact call_len_seq pins s σ H _ us Q I r ⟨a, ys, rfl, hs, h.here S (.int _)⟩
    · cases e
  | all =>
    simp only [biF, allF] at e
    split at e
    · obtain ⟨x, rfl, hx⟩ := hr.one
      obtain ⟨qs, e1, e2⟩ := Option.bind_eq_some_iff.mp e
      obtain ⟨bs, e3, rfl⟩ := Option.map_eq_some_iff.mp e2
      obtain ⟨a, ys, rfl, hs, hq⟩ := rep_lst S hx e1
      have ey := blsOf_ok hq e3
      subst ey
      exact cr_all hc pins s σ H _ us Q I r ⟨a, bs, rfl, SqL.of hs, h.here S (.bl _)⟩
    · cases e
  | any =>
    simp only [biF, anyF] at e
    split at e
    · obtain ⟨x, rfl, hx⟩ := hr.one
      obtain ⟨qs, e1, e2⟩ := Option.bind_eq_some_iff.mp e
      obtain ⟨bs, e3, rfl⟩ := Option.map_eq_some_iff.mp e2
      obtain ⟨a, ys, rfl, hs, hq⟩ := rep_lst S hx e1
      have ey := blsOf_ok hq e3
      subst ey
      exact cr_any hc pins s σ H _ us Q I r ⟨a, bs, rfl, SqL.of hs, h.here S (.bl _)⟩
    · cases e
  | abs =>
    simp only [biF, absF] at e
    split at e
    · obtain ⟨x, rfl, hx⟩ := hr.one
      cases hx; cases e
      exact call_abs pins s σ H _ us Q I r ⟨_, rfl, h.here S (.int _)⟩
    · cases e
  | tuple =>
    simp only [biF, tupleF] at e
    split at e
    · obtain ⟨x, rfl, hx⟩ := hr.one
      obtain ⟨qs, e1, rfl⟩ := Option.map_eq_some_iff.mp e
      obtain ⟨a, ys, rfl, hs, hq⟩ := rep_seq S hx e1
      refine call_tuple_of pins s σ H _ us Q I r ⟨a, ys, rfl, ?_⟩
      rcases hs with hs | hs
      · exact .inl ⟨hK ▸ hs, fun l hl => h.tup S hq hl⟩
      · exact .inr ⟨SqT.of hs, h.here S (.tup hs hq)⟩
    · cases e
  | list =>
    simp only [biF, listF] at e
    split at e
    · obtain ⟨x, rfl, hx⟩ := hr.one
      obtain ⟨qs, e1, rfl⟩ := Option.map_eq_some_iff.mp e
      obtain ⟨a, ys, rfl, hs, hq⟩ := rep_seq S hx e1
      have hs : SqL X.K H a ys ∨ SqT X.K H a ys := hs.imp (fun z => by rw [hK]; exact z) SqT.of
      exact call_list_of pins s σ H _ us Q I r ⟨a, ys, rfl, hs, fun l hl => h.lst S hq hl⟩
    · cases e
  | int =>
    simp only [biF, intF] at e
    split at e
    · obtain ⟨x, rfl, hx⟩ := hr.one
      cases hx; cases e
      exact call_int1 pins s σ H _ us Q I r (.inl ⟨_, rfl, h.here S (.int _)⟩)
    · obtain ⟨x, rfl, hx⟩ := hr.one
      cases hx; cases e
      exact call_int1 pins s σ H _ us Q I r (.inr ⟨_, rfl, h.here S (.int _)⟩)
    · cases e
  | max2 =>
    simp only [biF, maxF] at e
    split at e
    · obtain ⟨x, y, rfl, hx, hy⟩ := hr.two
      cases hx; cases hy; cases e
      exact call_max2 hc pins s σ H _ us Q I r ⟨_, _, rfl, h.here S (.int _)⟩
    · cases e
  | min2 =>
    simp only [biF, minF] at e
    split at e
    · obtain ⟨x, y, rfl, hx, hy⟩ := hr.two
      cases hx; cases hy; cases e
      exact call_min2 hc pins s σ H _ us Q I r ⟨_, _, rfl, h.here S (.int _)⟩
    · cases e

  | sorted =>
    simp only [biF, sortedF] at e
    split at e
    · obtain ⟨x, rfl, hx⟩ := hr.one
      obtain ⟨ns, e1, rfl⟩ := Option.map_eq_some_iff.mp e
      obtain ⟨qs, e2, e3⟩ := Option.bind_eq_some_iff.mp e1
      obtain ⟨a, ys, rfl, hs, hq⟩ := rep_seq S hx e2
      have ey := intsOf_ok hq e3
      subst ey
      have fin : ∀ (ns' : List Int) (p : Addr), ns'.Perm ns → ns'.Pairwise (· ≤ ·) → H p = none → Q (.ref p) (upd H p (.lst (ns'.map V.int))) := fun ns' p h1 h2 hp => by
        rw [sortI_is h1 h2]
        exact h.lst S (ints_reps _) hp
      rcases hs with hs | hs
      · exact cr_sortedI pins s σ H _ us Q I r ⟨a, ns, rfl, by rw [hK]; exact hs, fin⟩
      · exact cr_sortedTupI pins s σ H _ us Q I r ⟨a, ns, rfl, SqT.of hs, fin⟩
    · cases e
  | max1 =>
    simp only [biF, max1F] at e
    split at e
    · obtain ⟨x, rfl, hx⟩ := hr.one
      obtain ⟨ns, e1, e⟩ := Option.bind_eq_some_iff.mp e
      obtain ⟨qs, e2, e3⟩ := Option.bind_eq_some_iff.mp e1
      obtain ⟨a, ys, rfl, hs, hq⟩ := rep_lst S hx e2
      have ey := intsOf_ok hq e3
      subst ey
      split at e
      · cases e
      · rename_i hne
        cases e
        have hne : ns ≠ [] := by simpa using hne
        refine cr_max hc pins s σ H _ us Q I r ⟨a, ns, rfl, SqL.of hs, List.length_pos_iff.mpr hne, fun m h1 h2 => ?_⟩
        rw [max_uniq hne h1 h2]
        exact h.here S (.int _)
    · cases e
  | min1 =>
    simp only [biF, min1F] at e
    split at e
    · obtain ⟨x, rfl, hx⟩ := hr.one
      obtain ⟨ns, e1, e⟩ := Option.bind_eq_some_iff.mp e
      obtain ⟨qs, e2, e3⟩ := Option.bind_eq_some_iff.mp e1
      obtain ⟨a, ys, rfl, hs, hq⟩ := rep_lst S hx e2
      have ey := intsOf_ok hq e3
      subst ey
      split at e
      · cases e
      · rename_i hne
        cases e
        have hne : ns ≠ [] := by simpa using hne
        refine cr_min hc pins s σ H _ us Q I r ⟨a, ns, rfl, SqL.of hs, List.length_pos_iff.mpr hne, fun m h1 h2 => ?_⟩
        rw [min_uniq hne h1 h2]
        exact h.here S (.int _)
    · cases e
  | sum =>
    simp only [biF, sumF] at e
    split at e
    · obtain ⟨x, rfl, hx⟩ := hr.one
      obtain ⟨ns, e1, rfl⟩ := Option.map_eq_some_iff.mp e
      obtain ⟨qs, e2, e3⟩ := Option.bind_eq_some_iff.mp e1
      obtain ⟨a, ys, rfl, hs, hq⟩ := rep_lst S hx e2
      have ey := intsOf_ok hq e3
      subst ey
      exact cr_sum hc pins s σ H _ us Q I r ⟨a, ns, rfl, SqL.of hs, h.here S (.int _)⟩
    · cases e
  | repr =>
    simp only [biF] at e
    unfold reprF at e
    split at e
    · obtain ⟨x, rfl, hx⟩ := hr.one
      cases hx; cases e
      obtain ⟨u, rfl, ru⟩ := vals1 r
      cases (show u = Value.none from ru)
      exact PySem.P.repr_of_none ⟨.str "None", H, I.tok _, ⟨_, rfl⟩, h.here S (.str _)⟩
    · obtain ⟨x, rfl, hx⟩ := hr.one
      cases hx
      split at e
      · rename_i hz
        cases e
        exact SkE.call_repr_int pins s σ H _ us Q I r ⟨_, rfl, of_decide_eq_true hz, h.here S (.str _)⟩
      · cases e
    · obtain ⟨x, rfl, hx⟩ := hr.one
      obtain ⟨d, e1, e2⟩ := Option.bind_eq_some_iff.mp e
      split at e2
      · rename_i hz
        cases e2
        obtain ⟨z1, z2⟩ := Bool.and_eq_true_iff.mp hz
        obtain ⟨z2, z3⟩ := Bool.and_eq_true_iff.mp z2
        obtain ⟨z3, z4⟩ := Bool.and_eq_true_iff.mp z3
        obtain ⟨z4, z5⟩ := Bool.and_eq_true_iff.mp z4
        have D := rep_data S hx e1
        rw [← hK] at D
        obtain ⟨u, rfl, ru⟩ := vals1 r
        obtain ⟨as, rd⟩ := Dp.reads I d x u D ru
        have hx' : ∃ a, x = .ref a := by
          cases D with
          | lst _ _ => exact ⟨_, rfl⟩
          | tup _ _ => exact ⟨_, rfl⟩
          | _ => simp [isSq] at z1
        obtain ⟨a, rfl⟩ := hx'
        cases ru
        have hd : d.hasDict = false := by simpa using z3
        exact PySem.repr_of_reads' rd z2 (PyData.noDict_hsm hd) hgd (by have := of_decide_eq_true z4; omega) (fun _ _ e => e) (fun h' u tk hk => ⟨.str d.shown, H, I.kept hk, ⟨_, rfl⟩, h.here S (.str _)⟩) (of_decide_eq_true z5)
      · cases e2
    · cases e

/-! ### methods, subscripts, slices, stores -/
def AfterS (g : G) (io : Io) (H : Hp) (s' : Store) (v : PV) (Q : VK) : Prop := ∀ io' H' z, Gr io H io' H' → SRp g io' H' s' → Rep g io' H' v z → Q z H'
def rM (g : G) (m : Mt) : V → List V → Hp → VK → Prop := fun x xs H Q => ∃ io s o vs v s', SRp g io H s ∧ Rep g io H o x ∧ Reps g io H vs xs ∧ meth m o vs s = some (v, s') ∧ AfterS g io H s' v Q
def mtId : Mt → String
  | .append => "list.append"
  | .pop => "list.pop"
  | .popat => "list.pop"
def mtN : Mt → Str
  | .append => "append"
  | .pop => "pop"
  | .popat => "pop"
theorem meth_ok {io : Io} {H : Hp} {s s' : Store} {m : Mt} {o v : PV} {vs : List PV} {x : V} (S : SRp g io H s) (h : Rep g io H o x) (e : meth m o vs s = some (v, s')) :
    ∃ (n : Nat) (a : Addr) (ps : List PV) (ys : List V), o = .ref n ∧ x = .ref a ∧ io.at_[n]? = some a ∧ H a = some (.lst ys) ∧ Reps g io H ps ys ∧ methL m n ps vs s = some (v, s') := by
  unfold meth at e
  split at e
  · cases h with
    | ref z =>
      obtain ⟨o', h1, h2⟩ := S.find z
      rw [h1] at e
      cases h2 with
      | lst y q => exact ⟨_, _, _, _, rfl, rfl, z, y, q, e⟩
      | dicK y _ q => cases e
      | dicT y _ q => cases e
      | ins y _ _ q => cases e
  · cases e
theorem set_lst {io : Io} {H : Hp} {s : Store} {n : Nat} {a : Addr} {ps : List PV} {ys : List V} (S : SRp g io H s) (z : io.at_[n]? = some a) (q : Reps g io H ps ys) :
    Gr io H io (upd H a (.lst ys)) ∧ SRp g io (upd H a (.lst ys)) (s.set n (.lst ps)) := by
  have gr : Gr io H io (upd H a (.lst ys)) := Gr.set (List.mem_of_getElem? z) (S.sto.plain (List.mem_of_getElem? z))
  exact ⟨gr, S.set z (.lst upd_same (q.grow gr S.sto))⟩
theorem reps_dropLast {io : Io} {H : Hp} {ps : List PV} {ys : List V} (q : Reps g io H ps ys) : Reps g io H ps.dropLast ys.dropLast := by
  rw [List.dropLast_eq_take, List.dropLast_eq_take, q.length]
  exact q.take _
theorem ixN_seqIx {n : Nat} {i : Int} {j : Nat} (h : ixN n i = some j) : seqIndex? i n = some j := (ixN_seq h).1
theorem mtR (m : Mt) : MtR X (mtId m) (rM g m) := by
  intro pins s σ H x xs v us Q I rx r ⟨io, st, o, vs, w, st', S, ho, hv, e0, h⟩
  obtain ⟨n, a, ps, ys, rfl, rfl, z, hH, q, e⟩ := meth_ok S ho e0
  clear e0
  cases m with
  | append =>
    simp only [methL] at e
    split at e
    · rename_i y
      obtain ⟨yv, rfl, hy⟩ := hv.one
      split at e
      · rename_i hz
        have hz := of_decide_eq_true hz
        cases e
        rw [q.length] at hz
        obtain ⟨gr, S'⟩ := set_lst S z (q.append (.cons hy .nil))
        exact mt_append pins s σ H _ _ v us Q I rx r ⟨a, ys, yv, rfl, rfl, hH, hz, h io _ _ gr S' .non⟩
      · cases e
    · cases e
  | pop =>
    simp only [methL] at e
    split at e
    · cases hv
      split at e
      · rename_i y hy
        cases e
        rw [q.length] at hy
        obtain ⟨yv, h1, h2⟩ := q.get hy
        obtain ⟨gr, S'⟩ := set_lst S z (reps_dropLast q)
        exact mt_pop pins s σ H _ _ v us Q I rx r ⟨a, ys, yv, rfl, rfl, hH, h1, h io _ _ gr S' (h2.grow gr S.sto)⟩
      · cases e
    · cases e
  | popat =>
    simp only [methL] at e
    split at e
    · rename_i i
      obtain ⟨iv, rfl, hi⟩ := hv.one
      cases hi
      split at e
      · rename_i j hj
        split at e
        · rename_i y hy
          cases e
          obtain ⟨yv, h1, h2⟩ := q.get hy
          rw [q.length] at hj
          obtain ⟨gr, S'⟩ := set_lst S z (q.eraseIdx j)
          obtain ⟨e1, e2, e3, e4⟩ := ixN_seq hj
          have hl := (I.hok a _ hH : ObjOk _ _ _ _ _ (.lst ys)).1
          have hs := sizeLine_eq
          exact mt_popAt pins s σ H _ _ v us Q I rx r ⟨a, ys, i, j, yv, rfl, rfl, hH, by omega, by omega, e1, h1, h io _ _ gr S' (h2.grow gr S.sto)⟩
        · cases e
      · cases e
    · cases e
theorem subR (hK : X.K = g.K) (hu : X.A.units + 1 < cLine) : IxR X (rB g subG) := by
  intro value slice pins s σ H x y v u Q I rx ry ⟨io, st, p, q, r, S, hp, hq, e, h⟩ hsu
  unfold subG at e
  split at e
  · rename_i t ks vs h1
    split at e
    · rename_i hk
      obtain ⟨a, rfl, d⟩ := rep_dic S hp h1
      obtain ⟨o, h2, _, h3⟩ := dic_get d hk hq
      obtain ⟨xv, rfl, h4⟩ := h3 _ e
      exact ix_dic hu value slice pins s σ H _ _ v u Q I rx ry ⟨a, xv, rfl, h2, h.here S h4⟩ hsu
    · cases e
  split at e
  · rename_i ps j h1
    cases hq
    obtain ⟨a, xs, rfl, hs, hr⟩ := rep_seq S hp h1
    obtain ⟨k, e1, e2⟩ := Option.bind_eq_some_iff.mp (show (ixN ps.length j).bind (fun i => ps[i]?) = some r from e)
    obtain ⟨xv, h2, h3⟩ := hr.get e2
    have e3 : atI xs j = some xv := by
      show (ixN xs.length j).bind (fun i => xs[i]?) = some xv
      rw [← hr.length, e1]
      exact h2
    have hs : SqL X.K H a xs ∨ SqT X.K H a xs := hs.imp (fun z => by rw [hK]; exact z) SqT.of
    rcases hs with hs | hs
    · exact ix_list value slice pins s σ H _ _ v u Q I rx ry ⟨a, xs, j, xv, rfl, rfl, hs, e3, h.here S h3⟩ hsu
    · exact ix_tup value slice pins s σ H _ _ v u Q I rx ry ⟨a, xs, j, xv, rfl, rfl, hs, e3, h.here S h3⟩ hsu
  · cases e
theorem cutP_rep {io : Io} {H : Hp} {ps : List PV} {xs : List V} (q : Reps g io H ps xs) (lo hi : Option Int) : Reps g io H (cutP ps lo hi) (cutV xs lo hi) := by
  unfold cutP cutV
  rw [q.length]
  exact (q.drop _).take _
theorem cutP_all {α : Type} {xs : List α} {lo hi : Option Int} (h : HT.sIx xs.length 0 lo = 0 ∧ HT.sIx xs.length xs.length hi = xs.length) : (xs.drop (HT.sIx xs.length 0 lo)).take (HT.sIx xs.length xs.length hi - HT.sIx xs.length 0 lo) = xs := by
  rw [h.1, h.2]
  simp
def rSl (g : G) : V → Option Int → Option Int → Hp → VK → Prop := fun x lo hi H Q => ∃ io s p v, SRp g io H s ∧ Rep g io H p x ∧ slcG p lo hi s = some v ∧ After g io H s v Q
theorem slcR (hK : X.K = g.K) : SlR X (rSl g) := by
  intro pins s σ H x v vl vu lo hi sl Q I rx hs pl pu ⟨io, st, p, r, S, hp, e, h⟩
  unfold slcG at e
  split at e
  · cases e
    cases hp with
    | tup z q =>
      rename_i ps a xs
      have z' : SqT X.K H a xs := SqT.of z
      refine sl_tupA pins s σ H _ v vl vu lo hi sl Q I rx hs pl pu ⟨a, xs, rfl, z', fun hw => ?_, fun _ p hp => h.tup S (cutP_rep q lo hi) hp⟩
      have e2 : cutP ps lo hi = ps := by
        unfold cutP
        rw [← q.length] at hw
        exact cutP_all hw
      rw [e2] at h
      exact h.here S (.tup z q)
  · obtain ⟨qs, e1, rfl⟩ := Option.map_eq_some_iff.mp e
    obtain ⟨a, xs, rfl, z, q⟩ := rep_lst S hp e1
    exact sl_list pins s σ H _ v vl vu lo hi sl Q I rx hs pl pu ⟨a, xs, rfl, SqL.of z, fun p hp => h.lst S (cutP_rep q lo hi) hp⟩
def rSet (g : G) : TSet := fun o i v H Q => ∃ io s po pi pv s', SRp g io H s ∧ Rep g io H po o ∧ Rep g io H pi i ∧ Rep g io H pv v ∧ setI po pi pv s = some s' ∧ ∀ io' H', Gr io H io' H' → SRp g io' H' s' → Q H'
theorem setR (hu : X.A.units + 1 < cLine) : PSet X (rSet g) := by
  intro pins s σ H o i v uo ui uv Q I ro ri rv ⟨io, st, po, pi, pv, st', S, ho, hi, hv, e, h⟩
  unfold setI at e
  split at e
  · rename_i n
    cases ho with
    | ref z =>
      obtain ⟨o', h1, h2⟩ := S.find z
      rw [h1] at e
      cases h2 with
      | lst y q =>
        rename_i a ps ys
        simp only at e
        split at e
        · rename_i k
          cases hi
          split at e
          · rename_i j hj
            cases e
            rw [q.length] at hj
            obtain ⟨gr, S'⟩ := set_lst S z (q.set hv j)
            exact set_list pins s σ H _ _ v uo ui uv Q I ro ri rv ⟨a, ys, k, j, rfl, rfl, y, hj, h io _ gr S'⟩
          · cases e
        · cases e
      | dicK y l q =>
        rename_i a ks ps xs
        simp only at e
        split at e
        · rename_i hk
          obtain ⟨k1, k2⟩ := Bool.and_eq_true_iff.mp hk
          have k2 := of_decide_eq_true k2
          rw [List.length_map] at k2
          cases e
          obtain ⟨c, rfl⟩ := keyB_ok k1
          have ei := key_k hi
          subst ei
          obtain ⟨ks', xs', e1, e2, e3, e4⟩ := dput_val (e := keyP) (fun a b => keyP_inj) c hv l q
          rw [e3] at h
          have gr : Gr io H io (upd H a (.dK (ks'.zip xs'))) := Gr.set (List.mem_of_getElem? z) (S.sto.plain (List.mem_of_getElem? z))
          refine set_dic hu pins s σ H _ _ v uo ui uv Q I ro ri rv ⟨a, _, rfl, DPut.k y (by rw [zip_len l]; exact k2), ?_⟩
          rw [e1]
          exact h io _ gr (S.set z (.dicK upd_same e2 (e4.grow gr S.sto)))
        · cases e
      | dicT y l q =>
        rename_i a ks ps xs
        simp only at e
        split at e
        · rename_i hk
          obtain ⟨k1, k2⟩ := Bool.and_eq_true_iff.mp hk
          have k2 := of_decide_eq_true k2
          rw [List.length_map] at k2
          cases e
          simp only [keyOk] at k1
          split at k1
          · rename_i kk
            obtain ⟨c, rfl⟩ := keyBs_ok k1
            obtain ⟨b, rfl, hb⟩ := key_t (k := c) hi
            obtain ⟨ks', xs', e1, e2, e3, e4⟩ := dput_val (e := keyTP) (fun a b => keyTP_inj) c hv l q
            have e3 : (dput (ks.map fun k => PV.tup (k.map keyP)) ps (.tup (c.map keyP)) pv).1 = ks'.map keyTP := e3
            rw [e3] at h
            have gr : Gr io H io (upd H a (.dT (ks'.zip xs'))) := Gr.set (List.mem_of_getElem? z) (S.sto.plain (List.mem_of_getElem? z))
            refine set_dic hu pins s σ H _ _ v uo ui uv Q I ro ri rv ⟨a, _, rfl, DPut.t y hb (by rw [zip_len l]; exact k2), ?_⟩
            rw [e1]
            exact h io _ gr (S.set z (.dicT upd_same e2 (e4.grow gr S.sto)))
          · cases k1
        · cases e
      | ins y _ _ q => cases e
  · cases e
end
end Mini

set_option Elab.async false
set_option linter.all false
set_option maxRecDepth 100000
/-! Mini6: the evaluator's readings as HandS' transformers. -/
namespace Mini
open PySem L2

inductive XRp (g : G) (io : Io) (H : Hp) : PV → Value → Option Addr → Prop
  | own0 {c : Str} {C : Addr} : g.mg c = some (.ref C) → XRp g io H (.exn c [] []) (.ref C) none
  | own {c : Str} {C dx : Addr} {ns : List Str} {ps : List PV} {xs : List V} : dx ∉ io → H dx = some (.xd (ns.zip xs)) → ns.length = xs.length → g.mg c = some (.ref C) → Reps g io H ps xs → XRp g io H (.exn c ns ps) (.ref C) (some dx)
theorem XRp.mv {g : G} {io io' : Io} {H H' : Hp} (r : Mv g io H io' H') {x : PV} {c : Value} {d : Option Addr} (h : XRp g io H x c d) : XRp g io' H' x c d := by
  cases h with
  | own0 h => exact .own0 h
  | own h1 h2 h3 h4 h5 => exact .own (r.ext _ _ h1 h2).1 (r.ext _ _ h1 h2).2 h3 h4 (h5.mv r)
theorem XRp.grow {g : G} {io io' : Io} {H H' : Hp} (r : Gr io H io' H') (s : Sto io H) {x : PV} {c : Value} {d : Option Addr} (h : XRp g io H x c d) : XRp g io' H' x c d := h.mv (r.mv s)

def Ok (g : G) (W : WX) (σ : St) (io : Io) (H : Hp) {α : Type} (P : Io → Hp → Store → α → Prop) : R α → Prop
  | .ok a s => ∀ io' H', Gr io H io' H' → SRp g io' H' s → P io' H' s a
  | .exc x s => ∀ io' H' cls d, Gr io H io' H' → SRp g io' H' s → XRp g io' H' x cls d → W cls d σ H'
  | .stuck => False
/-- no exception -/
def OkN (g : G) (io : Io) (H : Hp) {α : Type} (P : Io → Hp → Store → α → Prop) : R α → Prop
  | .ok a s => ∀ io' H', Gr io H io' H' → SRp g io' H' s → P io' H' s a
  | _ => False
section
variable {g : G} {W : WX} {σ : St} {io io1 : Io} {H H1 : Hp} {α β : Type} {P P' : Io → Hp → Store → α → Prop} {r : R α}
theorem Ok.gr (h : Ok g W σ io H P r) (q : Gr io H io1 H1) : Ok g W σ io1 H1 P r := by
  cases r with
  | ok a s => exact fun io' H' k S => h io' H' (q.trans k) S
  | exc x s => exact fun io' H' c d k S z => h io' H' c d (q.trans k) S z
  | stuck => exact h
theorem Ok.imp (h : Ok g W σ io H P r) (k : ∀ io' H' s a, Gr io H io' H' → SRp g io' H' s → P io' H' s a → P' io' H' s a) : Ok g W σ io H P' r := by
  cases r with
  | ok a s => exact fun io' H' q S => k _ _ _ _ q S (h io' H' q S)
  | exc x s => exact h
  | stuck => exact h
theorem Ok.bnd {P : Io → Hp → Store → β → Prop} {m : M α} {f : α → M β} {s : Store} (h : Ok g W σ io H P (m.bnd f s)) : Ok g W σ io H (fun io' H' s' a => Ok g W σ io' H' P (f a s')) (m s) := by
  unfold M.bnd at h
  cases e : m s with
  | ok a s' => rw [e] at h; exact fun io' H' q _ => Ok.gr h q
  | exc x s' => rw [e] at h; exact h
  | stuck => rw [e] at h; exact h
theorem Ok.ret {a : α} {s : Store} (h : Ok g W σ io H P (M.ret a s)) (S : SRp g io H s) : P io H s a := h io H (Gr.refl _ _) S
theorem Ok.here {a : α} {s : Store} (h : Ok g W σ io H P (.ok a s)) (S : SRp g io H s) : P io H s a := h io H (Gr.refl _ _) S
theorem OkN.gr (h : OkN g io H P r) (q : Gr io H io1 H1) : OkN g io1 H1 P r := by
  cases r with
  | ok a s => exact fun io' H' k S => h io' H' (q.trans k) S
  | exc x s => exact h
  | stuck => exact h
theorem OkN.imp (h : OkN g io H P r) (k : ∀ io' H' s a, Gr io H io' H' → SRp g io' H' s → P io' H' s a → P' io' H' s a) : OkN g io H P' r := by
  cases r with
  | ok a s => exact fun io' H' q S => k _ _ _ _ q S (h io' H' q S)
  | exc x s => exact h
  | stuck => exact h
theorem OkN.bnd {P : Io → Hp → Store → β → Prop} {m : M α} {f : α → M β} {s : Store} (h : OkN g io H P (m.bnd f s)) : OkN g io H (fun io' H' s' a => OkN g io' H' P (f a s')) (m s) := by
  unfold M.bnd at h
  cases e : m s with
  | ok a s' => rw [e] at h; exact fun io' H' q _ => OkN.gr h q
  | exc x s' => rw [e] at h; exact h
  | stuck => rw [e] at h; exact h
theorem OkN.ok (h : OkN g io H P r) : Ok g W σ io H P r := by
  cases r with
  | ok a s => exact h
  | exc x s => exact h.elim
  | stuck => exact h
theorem lift_ok {f : Store → Option α} {s : Store} (h : Ok g W σ io H P (M.lift f s)) : ∃ a, f s = some a ∧ ∀ io' H', Gr io H io' H' → SRp g io' H' s → P io' H' s a := by
  unfold M.lift at h
  cases e : f s with
  | none => rw [e] at h; exact h.elim
  | some a => rw [e] at h; exact ⟨a, rfl, h⟩
theorem liftS_ok {f : Store → Option (α × Store)} {s : Store} (h : Ok g W σ io H P (M.liftS f s)) : ∃ a s', f s = some (a, s') ∧ ∀ io' H', Gr io H io' H' → SRp g io' H' s' → P io' H' s' a := by
  unfold M.liftS at h
  cases e : f s with
  | none => rw [e] at h; exact h.elim
  | some a => rw [e] at h; exact ⟨a.1, a.2, rfl, h⟩
theorem liftN_ok {f : Store → Option (α × Store)} {s : Store} (h : OkN g io H P (M.liftS f s)) : ∃ a s', f s = some (a, s') ∧ ∀ io' H', Gr io H io' H' → SRp g io' H' s' → P io' H' s' a := by
  unfold M.liftS at h
  cases e : f s with
  | none => rw [e] at h; exact h.elim
  | some a => rw [e] at h; exact ⟨a.1, a.2, rfl, h⟩
theorem opt_ok {f : Option α} {s : Store} (h : Ok g W σ io H P (M.opt f s)) : ∃ a, f = some a ∧ ∀ io' H', Gr io H io' H' → SRp g io' H' s → P io' H' s a := by
  cases f with
  | none => exact h.elim
  | some a => exact ⟨a, rfl, h⟩
end

/-! ### transformers -/
def tE (g : G) (W : WX) (m : Env → M PV) : TE := fun σ H Q => ∃ io ρ s, ERp g io H ρ σ ∧ SRp g io H s ∧ Ok g W σ io H (fun io' H' _ v => ∀ x, Rep g io' H' v x → Q x H') (m ρ s)
def tA (g : G) (W : WX) (m : Env → M (List PV)) : TA := fun σ H Q => ∃ io ρ s, ERp g io H ρ σ ∧ SRp g io H s ∧ Ok g W σ io H (fun io' H' _ v => ∀ x, Reps g io' H' v x → Q x H') (m ρ s)
def tT (g : G) (W : WX) (m : Env → M Bool) : TT := fun σ H Q => ∃ io ρ s, ERp g io H ρ σ ∧ SRp g io H s ∧ Ok g W σ io H (fun _ H' _ v => Q v H') (m ρ s)
def tO (g : G) (W : WX) (m : Env → M (Option Int)) : TO := fun σ H Q => ∃ io ρ s, ERp g io H ρ σ ∧ SRp g io H s ∧ Ok g W σ io H (fun _ H' _ v => Q v H') (m ρ s)
def tI (g : G) (W : WX) (m : Env → M Walk) : TI := fun σ H R => ∃ io ρ s, ERp g io H ρ σ ∧ SRp g io H s ∧ Ok g W σ io H (fun io' H' _ w => ∀ J, WalkM g J w io' H' → R J H') (m ρ s)
/-- sl: the slots that may be stored -/
def keeps (sl : List Nat) (σ σ' : St) : Prop := ∀ vs : List Nat, (∀ i ∈ sl, i ∈ vs) → L2.wipe σ' vs = L2.wipe σ vs
def tG (g : G) (sl : List Nat) (m : PV → Env → M Env) : TG := fun v σ H Q => ∃ io ρ s p, ERp g io H ρ σ ∧ SRp g io H s ∧ Rep g io H p v ∧ OkN g io H (fun io' H' _ ρ' => ∀ σ', ERp g io' H' ρ' σ' → keeps sl σ σ' → Q σ' H') (m p ρ s)
def tGs (g : G) (sl : List Nat) (m : List PV → Env → M Env) : TGs := fun v σ H Q => ∃ io ρ s p, ERp g io H ρ σ ∧ SRp g io H s ∧ Reps g io H p v ∧ OkN g io H (fun io' H' _ ρ' => ∀ σ', ERp g io' H' ρ' σ' → keeps sl σ σ' → Q σ' H') (m p ρ s)
def OkS (g : G) (W : WX) (D : Ends) (io : Io) (H : Hp) : SR → Prop
  | .ok (.nx ρ) s => ∀ io' H' σ', Gr io H io' H' → SRp g io' H' s → ERp g io' H' ρ σ' → D.nx σ' H'
  | .ok (.bk ρ) s => ∀ io' H' σ', Gr io H io' H' → SRp g io' H' s → ERp g io' H' ρ σ' → D.bk σ' H'
  | .ok (.ct ρ) s => ∀ io' H' σ', Gr io H io' H' → SRp g io' H' s → ERp g io' H' ρ σ' → D.ct σ' H'
  | .ok (.rt v) s => ∀ io' H' x, Gr io H io' H' → SRp g io' H' s → Rep g io' H' v x → D.rt x H'
  | .exc x ρ s => ∀ io' H' σ' cls d, Gr io H io' H' → SRp g io' H' s → ERp g io' H' ρ σ' → XRp g io' H' x cls d → W cls d σ' H'
  | .stuck => False
def tS (g : G) (W : WX) (m : MS) : TS := fun D σ H => ∃ io ρ s, ERp g io H ρ σ ∧ SRp g io H s ∧ OkS g W D io H (m ρ s)
theorem OkS.gr {g : G} {W : WX} {D : Ends} {io io1 : Io} {H H1 : Hp} {r : SR} (h : OkS g W D io H r) (q : Gr io H io1 H1) : OkS g W D io1 H1 r := by
  cases r with
  | ok f s =>
    cases f with
    | nx ρ => exact fun io' H' σ' k S E => h io' H' σ' (q.trans k) S E
    | bk ρ => exact fun io' H' σ' k S E => h io' H' σ' (q.trans k) S E
    | ct ρ => exact fun io' H' σ' k S E => h io' H' σ' (q.trans k) S E
    | rt ρ => exact fun io' H' σ' k S E => h io' H' σ' (q.trans k) S E
  | exc x ρ s => exact fun io' H' σ' c d k S E X => h io' H' σ' c d (q.trans k) S E X
  | stuck => exact h

section
variable {g : G} {W : WX} {σ : St} {io : Io} {H : Hp} {ρ : Env} {s : Store}
/-- an expression, then more -/
theorem tE_run {m : Env → M PV} {Q : VK} {K : Io → Hp → Store → PV → Prop} (E : ERp g io H ρ σ) (S : SRp g io H s) (h : Ok g W σ io H K (m ρ s))
    (k : ∀ io' H' s' v x, Gr io H io' H' → ERp g io' H' ρ σ → SRp g io' H' s' → K io' H' s' v → Rep g io' H' v x → Q x H') : tE g W m σ H Q :=
  ⟨io, ρ, s, E, S, h.imp fun io' H' s' a q S' p x r => k io' H' s' a x q (E.grow q S.sto) S' p r⟩
theorem tA_run {m : Env → M (List PV)} {Q : List V → Hp → Prop} {K : Io → Hp → Store → List PV → Prop} (E : ERp g io H ρ σ) (S : SRp g io H s) (h : Ok g W σ io H K (m ρ s))
    (k : ∀ io' H' s' v x, Gr io H io' H' → ERp g io' H' ρ σ → SRp g io' H' s' → K io' H' s' v → Reps g io' H' v x → Q x H') : tA g W m σ H Q :=
  ⟨io, ρ, s, E, S, h.imp fun io' H' s' a q S' p x r => k io' H' s' a x q (E.grow q S.sto) S' p r⟩
theorem tT_run {m : Env → M Bool} {Q : Bool → Hp → Prop} {K : Io → Hp → Store → Bool → Prop} (E : ERp g io H ρ σ) (S : SRp g io H s) (h : Ok g W σ io H K (m ρ s))
    (k : ∀ io' H' s' v, Gr io H io' H' → ERp g io' H' ρ σ → SRp g io' H' s' → K io' H' s' v → Q v H') : tT g W m σ H Q :=
  ⟨io, ρ, s, E, S, h.imp fun io' H' s' a q S' p => k io' H' s' a q (E.grow q S.sto) S' p⟩
theorem tO_run {m : Env → M (Option Int)} {Q : Option Int → Hp → Prop} {K : Io → Hp → Store → Option Int → Prop} (E : ERp g io H ρ σ) (S : SRp g io H s) (h : Ok g W σ io H K (m ρ s))
    (k : ∀ io' H' s' v, Gr io H io' H' → ERp g io' H' ρ σ → SRp g io' H' s' → K io' H' s' v → Q v H') : tO g W m σ H Q :=
  ⟨io, ρ, s, E, S, h.imp fun io' H' s' a q S' p => k io' H' s' a q (E.grow q S.sto) S' p⟩
/-- weaken -/
theorem PE.wk {X : Cx} {e : Expr} {t t' : TE} (h : PE X e t') (k : ∀ σ H Q, t σ H Q → t' σ H Q) : PE X e t := ⟨fun pins s σ H Q I q => h.run pins s σ H Q I (k σ H Q q)⟩
theorem PT.wk {X : Cx} {e : Expr} {t t' : TT} (h : PT X e t') (k : ∀ σ H Q, t σ H Q → t' σ H Q) : PT X e t := ⟨fun pins s σ H Q I q => h.run pins s σ H Q I (k σ H Q q)⟩
theorem PW.wk {X : Cx} {e : Expr} {t t' : TT} (h : PW X e t') (k : ∀ σ H Q, t σ H Q → t' σ H Q) : PW X e t := ⟨fun wh pins s σ H Q I q => h.run wh pins s σ H Q I (k σ H Q q)⟩
theorem PA.wk {X : Cx} {e : List Expr} {t t' : TA} (h : PA X e t') (k : ∀ σ H Q, t σ H Q → t' σ H Q) : PA X e t := ⟨fun pos pins s σ H Q I q => h.run pos pins s σ H Q I (k σ H Q q)⟩
theorem PO.wk {X : Cx} {e : Option Expr} {t t' : TO} (h : PO X e t') (k : ∀ σ H Q, t σ H Q → t' σ H Q) : PO X e t := ⟨fun pins s σ H Q I q => h.run pins s σ H Q I (k σ H Q q)⟩
theorem PI.wk {X : Cx} {tg e : Expr} {t t' : TI} (h : PI X tg e t') (k : ∀ σ H Q, t σ H Q → t' σ H Q) : PI X tg e t := ⟨fun pins s σ H Q I q => h.run pins s σ H Q I (k σ H Q q)⟩
theorem PG.wk {X : Cx} {e : Expr} {t t' : TG} (h : PG X e t') (k : ∀ v σ H Q, t v σ H Q → t' v σ H Q) : PG X e t := ⟨fun pins s σ H v u Q I r q => h.run pins s σ H v u Q I r (k v σ H Q q)⟩
theorem PGs.wk {X : Cx} {e : List Expr} {t t' : TGs} (h : PGs X e t') (k : ∀ v σ H Q, t v σ H Q → t' v σ H Q) : PGs X e t := ⟨fun pins s σ H v u Q I r q => h.run pins s σ H v u Q I r (k v σ H Q q)⟩
theorem PS.wk {X : Cx} {e : Stmt} {t t' : TS} (h : PS X e t') (k : ∀ D σ H, t D σ H → t' D σ H) : PS X e t := ⟨fun pins s σ H D I q => h.run pins s σ H D I (k D σ H q)⟩
theorem PSs.wk {X : Cx} {e : List Stmt} {t t' : TS} (h : PSs X e t') (k : ∀ D σ H, t D σ H → t' D σ H) : PSs X e t := ⟨fun pins s σ H D I q => h.run pins s σ H D I (k D σ H q)⟩
end
theorem keeps_refl (sl : List Nat) (σ : St) : keeps sl σ σ := fun _ _ => rfl
theorem keeps.trans {s1 s2 : List Nat} {σ σ1 σ2 : St} (a : keeps s1 σ σ1) (b : keeps s2 σ1 σ2) : keeps (s1 ++ s2) σ σ2 := fun vs h =>
  (b vs fun i hi => h i (List.mem_append_right _ hi)).trans (a vs fun i hi => h i (List.mem_append_left _ hi))
theorem wipe_set {σ : St} {i : Nat} {x : Option V} : ∀ {vs : List Nat}, i ∈ vs → L2.wipe (σ.set i x) vs = L2.wipe σ vs
  | [], h => by cases h
  | v :: vs, h => by
    unfold L2.wipe
    by_cases hi : i ∈ vs
    · rw [wipe_set hi]
    · have e : i = v := (List.mem_cons.mp h).resolve_right hi
      subst e
      apply List.ext_getElem?
      intro j
      by_cases hj : i = j
      · subst hj
        by_cases hl : i < σ.length
        · rw [List.getElem?_set_self (by rw [wipe_length, List.length_set]; exact hl), List.getElem?_set_self (by rw [wipe_length]; exact hl)]
        · rw [List.getElem?_eq_none (by rw [List.length_set, wipe_length, List.length_set]; omega), List.getElem?_eq_none (by rw [List.length_set, wipe_length]; omega)]
      · rw [List.getElem?_set_ne hj, List.getElem?_set_ne hj]
        by_cases hv : j ∈ vs
        · have n1 : (L2.wipe (σ.set i x) vs)[j]? = (L2.wipe σ vs)[j]? := by
            have a1 : ∀ (τ : St), (L2.wipe τ vs)[j]? = if j < τ.length then some none else none := by
              intro τ
              clear h hi hj
              induction vs with
              | nil => cases hv
              | cons w vs ih =>
                unfold L2.wipe
                by_cases hw : w = j
                · subst hw
                  by_cases hl : w < τ.length
                  · rw [List.getElem?_set_self (by rw [wipe_length]; exact hl), if_pos hl]
                  · rw [List.getElem?_eq_none (by rw [List.length_set, wipe_length]; omega), if_neg hl]
                · rw [List.getElem?_set_ne hw]
                  exact ih ((List.mem_cons.mp hv).resolve_left (Ne.symm hw))
            rw [a1, a1, List.length_set]
          exact n1
        · rw [L2.wipe_out hv, L2.wipe_out hv, List.getElem?_set_ne hj]
theorem keeps_set (σ : St) (i : Nat) (x : Option V) : keeps [i] σ (σ.set i x) := fun vs h => wipe_set (h i (by simp))
end Mini

set_option Elab.async false
set_option linter.all false
set_option maxRecDepth 100000
set_option maxHeartbeats 2000000
/-! MiniJ: lambdas made and called (by the road of the layer's module on lambdas). -/
namespace Mini
open PySem PySem.Spec PyProof.Rows L2 LamX
theorem lamO_ok {P : Program} {w : World} {H : Hp} {h : Heap} {d : LamD} {c' f : Addr} {pm ctv : Value} (e : h.get? f = some (PySem.W.kla_obj "<lambda>" d.qual d.params d.body d.scope d.cl pm c' ctv)) : ObjOk P w H h f (LamO d c' f) :=
  ⟨⟨pm, ctv, e⟩, ⟨_, e⟩, fun _ _ ⟨p, q, z⟩ k => ⟨p, q, k _ z⟩⟩
abbrev lamD (X : Cx) (params : Arguments) (body : Expr) (scope : Scope) : LamD := ⟨params, body, scope, X.env.qual ++ "<lambda>", cloFrom X.env.cells scope.names []⟩
section
variable {X : Cx} {pins : List (Addr × Obj)} {σ : L2.St} {H : Hp} {s : Shared}
/-- a lambda is made; its function is known from now on -/
theorem lam_new {T : List (Addr × Str)} {c P : Addr} {params : Arguments} {body : Expr} {scope : Scope} {pos : Pos} {E : Value → Shared → Prop} {Q : Value → Shared → Prop} (I : L2.Inv X pins σ H s) (TB : TabB X.base X.mg c P) (hcode : X.env.code = .ref c)
    (hm : (P, X.env.qual ++ "<lambda>") ∈ T) (hu : ∀ p ∈ T, p.1 = P → p.2 = X.env.qual ++ "<lambda>") (hT : Tabs T H) (hdef : defaultsOf params X.env = ([], [])) (hfree : ∀ y ∈ scope.names, y.2 = .free → ∃ c, X.env.cells.lookup y.1 = some c)
    (h : ∀ (f c' : Addr) (H1 : Hp) (s' : Shared), L2.Inv X pins σ H1 s' → ExtN H H1 → Tabs T H1 → (∀ a, H1 a = none → H a = none) → H f = none → H1 f = some (LamO (lamD X params body scope) c' f) → H1 c' = some (CodeO c' (X.env.qual ++ "<lambda>")) → (∀ b o, H b = some o → b = c' → o = CodeO c' (X.env.qual ++ "<lambda>")) → Q (.ref f) s') :
    wpAny (model X.prog X.w) X.A (eval (.Lambda params body scope pos) X.env) Q E s := by
  obtain ⟨ps, hP, ht, ha⟩ := hT _ hm
  refine PySem.W.kla_eval hdef ?_
  have bP : s.heap.BuiltinsAt X.mg P := TB.bm.keeps I.bk
  have hP' : s.heap.get? P = some { cls := .none, data := .fields ps } := I.hok P _ hP
  cases hc : codeAmong pos ps.toList with
  | none =>
    refine PySem.W.kla_makeFunction (mg := X.mg) (c := c) (P := P) (ps := ps) (closure_ok hfree) I.ok.glob (I.mod.glob.keeps I.bk) hcode (TB.code.keeps I.bk) hP' ht hc TB.gP bP fun c' ctv h' tk hx hge hlt hrec htb => ?_
    obtain ⟨c2, oc, vs, t, e2, hoc, hd, hv⟩ := hrec
    cases e2
    have hsz : s.heap.objs.size ≤ h'.objs.size := Nat.le_trans hge (Nat.le_of_lt hlt)
    have nC : H c' = none := I.hok.fresh hge
    have nF : H h'.objs.size = none := I.hok.fresh hsz
    have I1 := inv_table (t' := tk) (more := #[rawInt pos.line, rawInt pos.col, .ref c']) (h' := h') I hP (fun b o hb e => hx b o hb e) htb hge ⟨oc, vs, t, hoc, hd, hv⟩
    have ncF : h'.objs.size ≠ c' := Nat.ne_of_gt hlt
    have nPF : h'.objs.size ≠ P := Nat.ne_of_gt (Nat.lt_of_lt_of_le (Heap.lt_size hP') hsz)
    have nPc : P ≠ c' := ne_of_none hP nC
    have I2 := I1.laid (a := h'.objs.size) (o := LamO (lamD X params body scope) c' h'.objs.size) (t' := tk) (h' := h'.push (PySem.W.kla_obj "<lambda>" (X.env.qual ++ "<lambda>") params body scope (cloFrom X.env.cells scope.names []) ((X.mg "__name__").getD .none) c' ctv))
      (fun b o e => Heap.get?_push_of_some _ e) (Nat.le_refl _) (lamO_ok (d := lamD X params body scope) (Heap.get?_push_size _ rfl))
    have at_ : ∀ b, b ≠ P → b ≠ c' → b ≠ h'.objs.size → upd (upd (upd H P (.tbl (ps ++ #[rawInt pos.line, rawInt pos.col, .ref c']))) c' (CodeO c' (X.env.qual ++ "<lambda>"))) h'.objs.size (LamO (lamD X params body scope) c' h'.objs.size) b = H b := fun b h1 h2 h3 => by rw [upd_ne h3, upd_ne h2, upd_ne h1]
    have atC : upd (upd (upd H P (.tbl (ps ++ #[rawInt pos.line, rawInt pos.col, .ref c']))) c' (CodeO c' (X.env.qual ++ "<lambda>"))) h'.objs.size (LamO (lamD X params body scope) c' h'.objs.size) c' = some (CodeO c' (X.env.qual ++ "<lambda>")) := by rw [upd_ne (Ne.symm ncF), upd_same]
    have atP : upd (upd (upd H P (.tbl (ps ++ #[rawInt pos.line, rawInt pos.col, .ref c']))) c' (CodeO c' (X.env.qual ++ "<lambda>"))) h'.objs.size (LamO (lamD X params body scope) c' h'.objs.size) P = some (.tbl (ps ++ #[rawInt pos.line, rawInt pos.col, .ref c'])) := by rw [upd_ne (Ne.symm nPF), upd_ne nPc, upd_same]
    have hE : ExtN H (upd (upd (upd H P (.tbl (ps ++ #[rawInt pos.line, rawInt pos.col, .ref c']))) c' (CodeO c' (X.env.qual ++ "<lambda>"))) h'.objs.size (LamO (lamD X params body scope) c' h'.objs.size)) := fun b o e n => by
      rw [at_ b (fun z => n ps (Option.some.inj (e.symm.trans (by rw [z]; exact hP)))) (ne_of_none e nC) (ne_of_none e nF)]
      exact e
    have eL : (ps ++ #[rawInt pos.line, rawInt pos.col, .ref c']).toList = ps.toList ++ [rawInt pos.line, rawInt pos.col, .ref c'] := by simp
    refine h h'.objs.size c' _ _ I2 hE (fun p hp => ?_) (fun a e => ?_) nF upd_same atC (fun b o e z => by rw [z, nC] at e; cases e)
    · by_cases hb : p.1 = P
      · refine ⟨_, by rw [hb]; exact atP, by rw [eL]; exact PySem.TriplesOk_snoc _ _ _ _ ht, fun p' cv hcv => ?_⟩
        rw [hu p hp hb]
        rw [eL] at hcv
        rcases among_app _ ht hcv with z | z
        · obtain ⟨c0, e1, e2⟩ := ha p' cv z
          exact ⟨c0, e1, hE _ _ e2 codeO_ne⟩
        · exact ⟨c', z, atC⟩
      · obtain ⟨qs, a1, a2, a3⟩ := hT p hp
        refine ⟨qs, by rw [at_ _ hb (ne_of_none a1 nC) (ne_of_none a1 nF)]; exact a1, a2, fun p' cv hcv => ?_⟩
        obtain ⟨c0, e1, e2⟩ := a3 p' cv hcv
        exact ⟨c0, e1, hE _ _ e2 codeO_ne⟩
    · by_cases q1 : a = h'.objs.size
      · rw [q1]; exact nF
      · by_cases q2 : a = c'
        · rw [q2]; exact nC
        · by_cases q3 : a = P
          · rw [q3, atP] at e; cases e
          · rw [at_ a q3 q2 q1] at e; exact e
  | some cv =>
    obtain ⟨c', e, hco⟩ := ha pos cv hc
    subst e
    refine PySem.W.kla_makeFunctionHit (mg := X.mg) (c := c) (P := P) (ps := ps) (closure_ok hfree) I.ok.glob (I.mod.glob.keeps I.bk) hcode (TB.code.keeps I.bk) hP' ht hc bP fun ctv h' tk hx hsz => ?_
    have nF : H h'.objs.size = none := I.hok.fresh hsz
    have I1 : L2.Inv X pins σ H { s with heap := h', toks := tk } := I.kept hx
    have I2 := I1.laid (a := h'.objs.size) (o := LamO (lamD X params body scope) c' h'.objs.size) (t' := tk) (h' := h'.push (PySem.W.kla_obj "<lambda>" (X.env.qual ++ "<lambda>") params body scope (cloFrom X.env.cells scope.names []) ((X.mg "__name__").getD .none) c' ctv))
      (fun b o e => Heap.get?_push_of_some _ e) (Nat.le_refl _) (lamO_ok (d := lamD X params body scope) (Heap.get?_push_size _ rfl))
    have hE : ∀ b o, H b = some o → upd H h'.objs.size (LamO (lamD X params body scope) c' h'.objs.size) b = some o := fun b o e => by rw [upd_ne (ne_of_none e nF)]; exact e
    refine h h'.objs.size c' _ _ I2 (ExtN.of hE) (hT.ext hE) (fun a e => ?_) nF upd_same (hE _ _ hco) (fun b o e z => by rw [z, hco] at e; exact (Option.some.inj e).symm)
    by_cases q : a = h'.objs.size
    · rw [q]; exact nF
    · rw [upd_ne q] at e; exact e
/-- as an expression -/
theorem e_lamk {g : G} {W : WX} {k : Nat} {c P : Addr} {params : Arguments} {body : Expr} {scope : Scope} {pos : Pos} (TB : TabB X.base X.mg c P) (hcode : X.env.code = .ref c) (hm : (P, X.env.qual ++ "<lambda>") ∈ g.tabs) (hu : ∀ p ∈ g.tabs, p.1 = P → p.2 = X.env.qual ++ "<lambda>")
    (hdef : defaultsOf params X.env = ([], [])) (hfree : ∀ y ∈ scope.names, y.2 = .free → ∃ c, X.env.cells.lookup y.1 = some c) (hk : g.lam k = some (lamD X params body scope)) : PE X (.Lambda params body scope pos) (tE g W fun ρ => M.ret (.clo k)) := by
  refine ⟨fun pins s σ H Q I ⟨io, ρ, st, E, S, h⟩ => ?_⟩
  have hT : Tabs g.tabs H := by rw [← S.tab.2]; exact S.tab.1
  refine lam_new I TB hcode hm hu hT hdef hfree fun f c' H1 s' I1 eN T1 lv nF hf hc hcc => ?_
  have gr : Gr io H io H1 := ⟨fun a o _ e n => eN a o e n, fun _ => by rw [S.tab.2]; exact T1, lv, [], (Io.app_nil io).symm, fun _ h => by cases h⟩
  have S1 : SRp g io H1 st := S.grow gr fun a ha => by
    rcases S.sto a ha with ⟨_, e⟩ | ⟨_, e⟩ | ⟨_, e⟩ | ⟨_, _, _, e⟩ <;> (rw [e]; exact eN a _ e (fun _ z => by cases z))
  exact ⟨.ref f, H1, I1, rfl, h io H1 gr S1 _ (.clo (S.fresh nF) hk hf hc)⟩
end
end Mini

set_option Elab.async false
set_option linter.all false
set_option maxRecDepth 100000
/-! MiniG: a def's promise where no repr is under way (the layer's FnOk with one fact more of what is around). -/
namespace Mini
open PySem PySem.Spec PyProof.Rows L2
structure FnG (P : Program) (w : World) (K : PySem.W.Frag) (mg : Str → Option Value) (base : Heap) (k : Nat) (f : Addr) (fd : FuncData) (ps : List Str) (sp : Sp) : Prop where
  len : ∀ vs H Q E, sp vs H Q E → vs.length = ps.length
  run : ∀ (A : Around) (outer : List PySem.Env) (s : Shared) (H : Hp) (args : Args) (us : List Value) (vs : List V) (Q : VK) (E : XK), Room k A → A.guards = some [] → Env0 P w K mg base A outer s H → BindsTo s fd args (ps.zip us) → Vals vs us → sp vs H Q E →
    codeAny (model P w) A (.call (.ref f) args) (CR (L2.CX P w) outer P w H s Q E) s
theorem deeper_guards {A : Around} {env : PySem.Env} (h : A.guards = some []) : (A.deeper env).guards = some [] := by first | exact h | simpa [Around.deeper, Around.under, Code.guards, pushGuards] using h
section
variable {P : Program} {w : World} {K : PySem.W.Frag} {mg : Str → Option Value} {base : Heap} {x qual : Str} {params : Arguments} {body : List Stmt} {scope : Scope} {dvs : List V} {kws : List (Str × V)} {f : Addr} {fd : FuncData}
/-- by the road of the layer's fn_of -/
theorem fnG_of {N ps : List Str} {k : Nat} {sp : Sp} (F : FunD K x qual params body scope dvs kws f fd) (S : FnScope N ps scope) (len : ∀ vs H Q E, sp vs H Q E → vs.length = ps.length)
    (hbody : ∀ (cdv : Value) (A : Around) (outer : List PySem.Env) (s : Shared) (H : Hp) (vs : List V) (Q : VK) (E : XK), Room k (A.deeper (envOfC qual scope s.heap.objs.size f cdv)) → (A.deeper (envOfC qual scope s.heap.objs.size f cdv)).guards = some [] → sp vs H Q E →
      ∃ t, PSs (cxOf (L2.CX P w) P w K mg base N qual scope f cdv A outer s H E) body t ∧ t { nx := fun _ H' => Q .non H', rt := Q } (L2.start N vs) H) : FnG P w K mg base (k + 1) f fd ps sp := by
  obtain ⟨oc, od, dV, kV, doc, pm, an, cdv, ct, osl, rfl, lk, hcd, _, _⟩ := F.ex
  refine ⟨len, fun A outer s H args us vs Q E hr hg e0 hb r hsp => ?_⟩
  have KX : K.In s.heap := e0.mod.kin.keeps fun b o e => (e0.bs b o e).1
  have lim : s.heap.NoLimit := e0.mod.nolimit.keeps fun b o e => (e0.bs b o e).1
  have kinds : ∀ y ∈ ps.zip us, scope.names.lookup y.1 = some .local ∨ (scope.names.lookup y.1 = some .cell ∧ ((cellsFrom (s.heap.objs.size + 1) scope.names []).lookup y.1).isSome = true) := fun ⟨n, v⟩ hy =>
    (S.par n (List.of_mem_zip hy).1).imp id fun q => ⟨q, PySem.W.cellsFrom_some _ _ _ (.inl q)⟩
  refine codeAny_call_function hr.depth (KX _ _ lk) rfl S.co S.gen rfl (PySem.W.codeRec_of KX hcd) (hb _ _ _ _ ?_)
  refine wpAny_newFunctionEnv_cells S.kind kinds fun env he s1 y => ?_
  subst he
  refine ⟨lim.keeps y.toInCall.keep, codeAny_func ?_⟩
  obtain ⟨t, ht, hq⟩ := hbody cdv A outer s H vs Q E (hr.deeper _) (deeper_guards hg) hsp
  have I := inv_start (CX := L2.CX P w) (E := E) S hr.hd e0 (len _ _ _ _ hsp) r y
  refine wpAny_mono (ht.run [] s1 (L2.start N vs) H _ I hq) (fun fl s' hs => ?_) fun e s' hs => hs
  cases fl with
  | ret u =>
    obtain ⟨v, σ', H', J, rv, q⟩ := hs
    exact ⟨v, H', J.os, J.bare, J.base, J.hok, rv, q⟩
  | next =>
    obtain ⟨σ', H', J, q⟩ := hs
    exact ⟨V.non, H', J.os, J.bare, J.base, J.hok, rfl, q⟩
  | brk => obtain ⟨_, _, _, q⟩ := hs; exact q.elim
  | cont => obtain ⟨_, _, _, q⟩ := hs; exact q.elim
end
section
variable {X : Cx} {k : Nat} {f : Addr} {fd : FuncData} {ps : List Str} {sp : Sp}
theorem runG {W : WX} {pins : List (Addr × Obj)} {σ : L2.St} {H : Hp} {s : Shared} {Q : VK} {us : List Value} {vs : List V} (F : FnG X.prog X.w X.K X.mg X.base k f fd ps sp) (hr : Room k X.A) (hg : X.A.guards = some []) (hb : Binds X.K fd ps []) (tk : Takes X W)
    (I : L2.Inv X pins σ H s) (r : Vals vs us) (h : sp vs H Q (WE W σ)) : wpAny (model X.prog X.w) X.A (call (.ref f) us) (EP X pins σ Q) X.xe s := by
  have hl : us.length = ps.length := by rw [← r.length]; exact F.len _ _ _ _ h
  have b := hb s us I.kIn (by rw [List.append_nil]; exact hl)
  rw [List.append_nil] at b
  refine wpAny_call (codeAny_mono (F.run X.A X.stack s H ⟨us, []⟩ us vs Q _ hr hg I.env0 b r h) fun q s' hq => ?_)
  cases q with
  | error e => exact passAt tk σ pins H s e s' I hq
  | ok fl =>
    cases fl with
    | ret u => exact I.after hq
    | next => exact hq.elim
    | brk => exact hq.elim
    | cont => exact hq.elim
end
end Mini

set_option Elab.async false
set_option linter.all false
set_option maxRecDepth 100000
/-! MiniH: a law's end for such a promise (by the road of the layer's law_call and walk_ofE). -/
namespace Mini
open PySem PySem.Spec PyProof.Rows L2
theorem law_callG {P : Program} {w : World} {K : PySem.W.Frag} {mg mb : Str → Option Value} {k : Nat} {fa a : Addr} {fd : FuncData} {x : Str} {sp : Sp} {s₁ : Shared} {vs : List Value} {ns : List Int}
    (KX : K.In s₁.heap) (gns : s₁.heap.Ns mainGlobals mg) (hb : s₁.heap.Ns builtinsNs mb) (bbt : ∀ x : Str, x ≠ "__name__" → mb x = bootBuiltins x) (nlm : s₁.heap.NoLimit) (hg : s₁.gens = #[])
    (ha : s₁.heap.get? a = some { cls := .type "list", data := .seq vs.toArray }) (hi : IntsAre vs ns) (hl : ns.length ≤ sizeLine) (hr : Room k callerA)
    (F : ∀ base : Heap, K.In base → base.Ns mainGlobals mg → FnG P w K mg base k fa fd [x] sp) (hbind : ∀ (s : Shared) (u : Value), BindsTo s fd ⟨[u], []⟩ [(x, u)])
    (hsp : ∀ H : Hp, Only H → SqL K H a (ns.map V.int) → sp [.ref a] H (fun v _ => v = .bl true) fun _ _ _ => False)
    (hCX : ∀ H e s', L2.CX P w [] H s₁ (fun _ _ _ => False) e s' → False) :
    codeAny (model P w) callerA (.call (.ref fa) ⟨[.ref a], []⟩) (fun r s' => r = .ok (.ret (.bool true)) ∧ OldK s₁.heap s'.heap ∧ s'.os = s₁.os ∧ AllBare s'.gens) s₁ := by
  have rV := vals_ints hi
  have lnV := hi.length
  -- from an abstract heap in which nothing but the script may be tracked
  have main : ∀ H : Hp, Only H → SqL K H a (ns.map V.int) → HOk P w H s₁.heap → (∀ b, H b ≠ none → b = a) → (H a ≠ none → K.lookup a = none) →
      codeAny (model P w) callerA (.call (.ref fa) ⟨[.ref a], []⟩) (fun r s' => r = .ok (.ret (.bool true)) ∧ OldK s₁.heap s'.heap ∧ s'.os = s₁.os ∧ AllBare s'.gens) s₁ := by
    intro H hO hS hok hA hK
    have bof : ∀ {b : Addr} {o : Obj}, s₁.heap.get? b = some o → H b = none → (hidT s₁.heap H).get? b = some o := fun e n => hidT_get e n
    have nA : ∀ {b : Addr} {o : Obj} {es : Array DictEntry} {ep : Nat}, s₁.heap.get? b = some o → o.data = .dict es ep → H b = none := fun {b o es ep} e d => by
      cases q : H b with
      | none => rfl
      | some u =>
        have e' : b = a := hA b (by rw [q]; simp)
        subst e'
        rw [ha] at e; cases e
        have d' : Data.seq vs.toArray _ = Data.dict es ep := d
        cases d'
    have nK : ∀ {b : Addr} {m : Str → Option Value}, s₁.heap.Ns b m → (hidT s₁.heap H).Ns b m := fun {b m} ⟨o, es, ep, e, d, r⟩ => ⟨o, es, ep, bof e (nA e d), d, r⟩
    have kB : K.In (hidT s₁.heap H) := fun b o e => bof (KX b o e) (by
      cases q : H b with
      | none => rfl
      | some u =>
        have e' : b = a := hA b (by rw [q]; simp)
        subst e'
        rw [hK (by rw [q]; simp)] at e; cases e)
    have mD : Mod K mg (hidT s₁.heap H) := ⟨kB, nK gns, ⟨mb, nK hb, bbt⟩, let ⟨mc, h1, h2⟩ := nlm; ⟨mc, nK h1, h2⟩⟩
    have e0 : Env0 P w K mg (hidT s₁.heap H) callerA [] s₁ H := ⟨rfl, mD, fun b o e => of_hidT e, Nat.le_of_eq (hidT_size _ _), trivial, fun b hb => absurd (show b ∈ ([] : List Addr) from hb) (by simp), hok, .of_eq hg⟩
    refine codeAny_mono ((F _ kB (nK gns)).run callerA [] s₁ H ⟨[.ref a], []⟩ [.ref a] [.ref a] _ _ hr rfl e0 (hbind s₁ (.ref a)) (.cons rfl .nil) (hsp H hO hS)) fun r s' h => ?_
    cases r with
    | error e => exact (hCX H e s' h).elim
    | ok fl =>
      cases fl with
      | next => exact False.elim h
      | brk => exact False.elim h
      | cont => exact False.elim h
      | ret u =>
        obtain ⟨v, H', os, bare, un, hok', r', q⟩ := h
        have q' : v = .bl true := q
        subst q'
        obtain rfl : u = Value.bool true := r'
        refine ⟨rfl, OldK.of_keep fun b o e => ?_, os, bare⟩
        cases q : H b with
        | none => exact un.keep b o e q (by intro z; exact absurd (show b ∈ ([] : List Addr) from z) (by simp)) (by simp)
        | some u =>
          rcases hO b with z | ⟨ob, xs, z⟩
          · rw [q] at z; cases z
          · have z2 := un.frzs b ob _ z
            obtain ⟨e1, _⟩ := hok b _ z
            obtain ⟨e2, _⟩ := hok' b _ z2
            rw [e] at e1; cases e1
            exact e2
  cases hk : K.lookup a with
  | some o =>
    -- the script is one of the module's own objects
    have e := KX a o hk
    rw [ha] at e
    cases e
    refine main (fun _ => none) (fun _ => .inl rfl) (.inr ⟨_, vs.toArray, _, hk, rfl, rfl, rfl, by rw [List.size_toArray, lnV]; exact hl, by simpa using rV⟩) (fun b u z => by have z' : (none : Option HO) = some u := z; cases z') (fun b z => absurd rfl z) fun z => absurd rfl z
  | none =>
    refine main (fun b => if b = a then some (.frz { cls := .type "list", data := .seq vs.toArray } (.lst (ns.map V.int))) else none) (fun b => ?_) (.inl (.inr ⟨{ cls := .type "list", data := .seq vs.toArray }, if_pos rfl⟩)) (fun b u z => ?_) (fun b z => ?_) fun _ => hk
    · by_cases hb : b = a
      · exact .inr ⟨_, _, if_pos hb⟩
      · exact .inl (if_neg hb)
    · by_cases hb : b = a
      · have z' := (if_pos hb).symm.trans z
        cases z'
        subst hb
        exact ⟨ha, by rw [List.length_map]; exact hl, vs, _, rV, ha⟩
      · have z' := (if_neg hb).symm.trans z
        cases z'
    · by_cases hb : b = a
      · exact hb
      · exact absurd (if_neg hb) z
theorem walk_ofG {l : PySem.W.OpenLaw} {n k : Nat} {q : Program} {loose : List Str} {XP : (Str → Option Value) → Heap → Prop} {YP : World → Heap → Prop} {d : DefRec} {x : Str}
    (hn : l.most = some n) (hn2 : n ≤ sizeLine) (hdf : d.params.defaults = []) (hr : Room k callerA)
    (F : ∀ (w : World) (mg : Str → Option Value) (fa : Addr) (h : Heap), YP w h → h.Ns mainGlobals mg → mg d.name = some (.ref fa) →
      ∃ (K : PySem.W.Frag) (fd : FuncData) (sp : Sp), K.In h ∧ (∀ (s : Shared) (u : Value), BindsTo s fd ⟨[u], []⟩ [(x, u)]) ∧ (∀ (H : Hp) (a : Addr) (ns : List Int), ns.length ≤ n → Only H → SqL K H a (ns.map V.int) → sp [.ref a] H (fun v _ => v = .bl true) fun _ _ _ => False) ∧
        ∀ base : Heap, K.In base → base.Ns mainGlobals mg → FnG l.prog w K mg base k fa fd [x] sp) :
    PySem.W.WalkO q loose XP YP l.row.toRowW d [] (fun f vs => PySem.call f vs) := by
  refine Att.attach_call hn hdf fun w s0 s1 mg mb fa o pm cd doc a vs ns G Y ho hd hcd hmg hob his hlen hg => ?_
  obtain ⟨K, fd, sp, KX, hb, hsp, hF⟩ := F w mg fa _ Y G.T.g hmg
  exact law_callG KX G.T.g G.T.b G.T.builtins G.T.nolimit hg hob his (Nat.le_trans hlen hn2) hr hF hb (fun H hO hS => hsp H a ns hlen hO hS) fun H e s' c => by
    obtain ⟨_, _, _, _, _, _, _, _, _, _, _, _, z⟩ := c
    exact z
end Mini

set_option Elab.async false
set_option linter.all false
set_option maxRecDepth 100000
set_option maxHeartbeats 2000000
/-! MiniJ2: a known lambda called in the def that got it. -/
namespace Mini
open PySem PySem.Spec PyProof.Rows L2 LamX
section
variable {X : Cx} {pins : List (Addr × Obj)} {σ : L2.St} {H HZ : Hp} {s s1 : Shared}
theorem pe_clo {CXg : CXT} {Eg : XK} {Ng : List Str} {qg : Str} {sg : Scope} {gA f c' : Addr} {cdg : Value} {params : Arguments} {body : Expr} {scope : Scope} {k i : Nat} {a : Str} {pn : List (Addr × Obj)} {xe : Value → Shared → Prop} {W : WX} {tb : XK → TE} {p1 p2 : Pos}
    (I : L2.Inv X pins σ H s) (L : LamS X.env.scope scope) (hbind : ∀ pm ctv, bindArgs (PySem.W.kla_fn "<lambda>" (X.env.qual ++ "<lambda>") params body scope (cloFrom X.env.cells scope.names []) pm (.ref c') ctv) ⟨[], []⟩ = pure [])
    (tk : L2.Takes ((cxOf CXg X.prog X.w X.K X.mg X.base Ng qg sg gA cdg X.A X.stack s H Eg).tr pn xe) W) (hr : Room (k + 1) (X.A.deeper (envOfC qg sg s.heap.objs.size gA cdg)))
    (hbody : ∀ (E : XK) (outer : List PySem.Env) (s2 : Shared) (H2 : Hp), Room k ((X.A.deeper (envOfC qg sg s.heap.objs.size gA cdg)).deeper (lamEnv X scope s2.heap.objs.size f c')) → PE (lamCx X (X.A.deeper (envOfC qg sg s.heap.objs.size gA cdg)) outer s2 H2 E scope f c') body (tb E))
    (hN : Ng[i]? = some a) (hv : Vis sg a) (hd : (a == ("__debug__" : Str)) = false := by decide) (hcd : (a == ("__classdict__" : Str)) = false := by decide) :
    PE ((cxOf CXg X.prog X.w X.K X.mg X.base Ng qg sg gA cdg X.A X.stack s H Eg).tr pn xe) (.Call (.Name a p1) [] [] p2)
      (fun σZ HZ Q => σZ[i]? = some (some (.ref f)) ∧ HZ f = some (LamO (lamD X params body scope) c' f) ∧ HZ c' = some (CodeO c' (X.env.qual ++ "<lambda>")) ∧ tb (WE W σZ) σ HZ Q) := by
  refine ⟨fun pinsZ sZ σZ HZ Q IZ ⟨hs, hf, hc, ht⟩ => ?_⟩
  refine wpAny_Call_Name_kw (thn ((pe_var (pos := p1) (i := i) hN hv hd hcd).run pinsZ sZ σZ HZ (fun v H1 => v = .ref f ∧ H1 = HZ) IZ ⟨.ref f, hs, rfl, rfl⟩) fun u s1 ⟨v, H1, I1, r1, q1⟩ => ?_)
  obtain ⟨ev, eH⟩ := q1
  subst ev
  rw [eH] at I1
  obtain rfl : u = Value.ref f := r1
  obtain ⟨⟨pm, ctv, of1⟩, _, _⟩ := I1.hok f _ hf
  refine PySem.W.callWith_F0 ⟨_, _, _, _, of1⟩ ?_
  have un : Un (frs X.stack) [] H HZ s.heap s1.heap := I1.base
  obtain ⟨⟨oc, vs, t, hoc, hdc, hvc⟩, _, _⟩ := I1.hok c' _ hc
  have rc : codeAny (model X.prog X.w) (X.A.deeper (envOfC qg sg s.heap.objs.size gA cdg)) (.call (.ref f) ⟨[], []⟩) (CR (L2.CX X.prog X.w) (envOfC qg sg s.heap.objs.size gA cdg :: X.stack) X.prog X.w HZ s1 Q (WE W σZ)) s1 := by
    refine PySem.W.kla_callFunE hr.depth of1 rfl L.co L.gen rfl ⟨c', oc, vs, t, rfl, hoc, hdc, hvc⟩ ?_
    show wpAny _ _ _ _ _ _
    rw [show bindArgs _ ⟨[], []⟩ = pure [] from hbind pm ctv]
    refine wpAny_pure (wpAny_newFunctionEnv (fun y hy => (L.own y hy).2) (fun y hy => absurd hy (by simp)) (fun h₁ hns hsb => ⟨I1.nolimit.fresh _ hsb, ?_⟩) L.kind)
    show codeAny _ _ (.expr body (lamEnv X scope s1.heap.objs.size f c')) _ _
    have kp : ∀ b o, s1.heap.get? b = some o → h₁.get? b = some o := fun b o e => hsb.extBut b o (Nat.ne_of_lt (Heap.lt_size e)) (Heap.get?_push_of_some _ e)
    have J : L2.Inv (lamCx X (X.A.deeper (envOfC qg sg s.heap.objs.size gA cdg)) (envOfC qg sg s.heap.objs.size gA cdg :: X.stack) s1 HZ (WE W σZ) scope f c') [] σ HZ { s1 with heap := h₁, toks := s1.toks + ([] : List (Str × Value)).length } :=
      lam_start2 I L I1.env0 hr.hd un hns kp
    refine PySem.W.kla_codeExpr (wpAny_mono ((hbody _ _ s1 HZ (hr.deeper _)).run [] _ _ HZ Q J ht) (fun v s' hq => ?_) fun e s' hq => hq)
    obtain ⟨w', H', J', rv, q⟩ := hq
    exact ⟨w', H', J'.os, J'.bare, J'.base, J'.hok, rv, q⟩
  refine wpAny_call (codeAny_mono rc fun r s' hq => ?_)
  cases r with
  | error e => exact passAt tk σZ pinsZ HZ s1 e s' I1 hq
  | ok fl =>
    cases fl with
    | ret u => exact I1.after hq
    | next => exact False.elim hq
    | brk => exact False.elim hq
    | cont => exact False.elim hq
/-- an untracked object, new since the entry, is known from now on -/
theorem track {X : Cx} {pins : List (Addr × Obj)} {σ : L2.St} {H : Hp} {s : Shared} {a : Addr} {o : HO} (I : L2.Inv X pins σ H s) (n : H a = none) (n0 : X.s_0.heap.get? a = none) (nL : a ≠ X.env.locals) (nc : ∀ x c, X.env.cells.lookup x = some c → c ≠ a) (np : ∀ p ∈ X.pn ++ pins, p.1 ≠ a)
    (new : ObjOk X.prog X.w (upd H a o) s.heap a o) : L2.Inv X pins σ (upd H a o) s := by
  have ne0 : ∀ b u, X.s_0.heap.get? b = some u → b ≠ a := fun b u e z => by rw [z, n0] at e; cases e
  refine ⟨I.ok, I.os, I.bare, ⟨I.base.keep, I.base.slot, fun b u e q z => by rw [upd_ne (ne0 b u e)]; exact I.base.free b u e q z, I.base.there, fun b xs e => ?_, fun b u v e => ?_, fun b ps e => ?_⟩, I.loc, I.cell, by rw [upd_ne (Ne.symm nL)]; exact I.free, fun x c e => by rw [upd_ne (nc x c e)]; exact I.freeC x c e, fun p hp => ?_, fun b u e => ?_, I.len⟩
  · have z := I.base.tups b xs e
    rw [upd_ne (ne_of_none z n)]; exact z
  · have z := I.base.frzs b u v e
    rw [upd_ne (ne_of_none z n)]; exact z
  · obtain ⟨m, z⟩ := I.base.tbls b ps e
    exact ⟨m, by rw [upd_ne (ne_of_none z n)]; exact z⟩
  · obtain ⟨h1, h2, h3⟩ := I.pin p hp
    exact ⟨h1, by rw [upd_ne (np p hp)]; exact h2, h3⟩
  · by_cases hb : b = a
    · subst hb
      rw [upd_same] at e
      cases e
      exact new
    · rw [upd_ne hb] at e
      exact (I.hok b u e).stay (fun c v _ q => q) (fun c q => by rw [upd_ne (ne_of_none q n)]; exact q) fun c xs q => by rw [upd_ne (ne_of_none q n)]; exact q
end
end Mini

set_option Elab.async false
set_option linter.all false
set_option maxRecDepth 100000
set_option maxHeartbeats 2000000
/-! MiniJ3: try: body / except c as n: suite, where what is caught is kept (by the road of the layer's ps_try_as). -/
namespace Mini
open PySem PySem.Spec PyProof.Rows L2
/-- what the clause wishes: slot i is n's; what is caught is known behind the suite -/
def wKeep (K : PySem.W.Frag) (c : Value) (i : Nat) (ts : Addr → Value → Option Addr → TS) (D : Ends) : WX := fun cls d σ H =>
  PySem.W.exmOne K cls c = some true ∧ ∀ a, H a = none → ts a cls d { nx := fun σ' H' => H' a = none ∧ D.nx (σ'.set i none) (upd H' a (ExO cls d a)), rt := fun _ _ => False, bk := fun _ _ => False, ct := fun _ _ => False } (σ.set i (some (.ref a))) H
theorem exO_new {P : Program} {w : World} {H : Hp} {h : Heap} {a : Addr} {cls : Value} {d : Option Addr} {oe : Obj} {vs : Array Value} (e : h.get? a = some oe) (z : Zc cls d oe) (hd : oe.data = .fields vs) : ObjOk P w H h a (ExO cls d a) :=
  ⟨⟨oe, vs, e, z, hd⟩, ⟨oe, e⟩, fun _ _ ⟨o, v, q, r⟩ k => ⟨o, v, k o q, r⟩⟩
section
variable {X : Cx} {x n : Str} {c : Value} {i : Nat} {body suite : List Stmt} {b₀ : Stmt} {np pos pos' : Pos} {tb : WX → TS} {ts : Addr → Value → Option Addr → TS}
theorem ps_try_keep (hs : X.stack = X.env :: X.outer) (hf : X.env.frame = some X.env.locals) (hex : X.ex = []) (hN : X.N.Nodup) (hi : X.N[i]? = some n) (hln : X.env.kindOf n = some .local) (hc : Names X x c)
    (hb : ∀ (W : WX) (pn : List (Addr × Obj)) (xe : Value → Shared → Prop), L2.Takes (X.tr pn xe) W → PassesOwn (model X.prog X.w) X.A X.env xe → PSs (X.tr pn xe) body (tb W))
    (hsu : ∀ (a : Addr) (oe : Obj) (cls : Value) (d : Option Addr) (pn : List (Addr × Obj)), Zc cls d oe → (∃ vs, oe.data = .fields vs) → PSs (X.suite a ((a, oe) :: pn)) (b₀ :: suite) (ts a cls d)) :
    PS X (.Try body [.ExceptHandler (some (.Name x np)) (some n) (b₀ :: suite) pos'] [] [] pos) (fun D σ H => tb (wKeep X.K c i ts D) D σ H) := by
  refine ⟨fun pins s σ H D I h => ?_⟩
  have ok := I.ok
  have hfr : X.A.frames = some (X.env :: X.outer) := by rw [ok.frames, hs]
  have hloc : Loc X.env.scope n := .inl hln
  refine wpAny_Try_except ?_
  refine wpAny_mono ((hb (wKeep X.K c i ts D) (X.pn ++ pins) (fun e z1 => wpAny (model X.prog X.w) X.A (noteFrame e X.env) (fun _ z2 => wpAny (model X.prog X.w) X.A (setFlight e none) (fun _ z3 =>
    wpAny (model X.prog X.w) X.A (handleBy e X.env [.ExceptHandler (some (.Name x np)) (some n) (b₀ :: suite) pos']) (SP X pins D) X.xe z3) X.xe z2) X.xe z1) (fun u s' xx => ?_) PassesOwn.looking).run [] s σ H D (I.toTry _) h) (fun f s1 hsp => ?_) (fun e s1 he => he)
  · obtain ⟨a, B, sI, pins', σ', H', cls, d, rfl, J', nb, up, sky, na, os, ag, hb1, hyes⟩ := xx
    have J : L2.Inv X pins σ' H' sI := J'.ofTry ok
    have sk : Sky B (X.env :: X.outer) a (Zc cls d) X.env.locals s'.heap := by rw [← hs]; exact sky
    show wpAny (model X.prog X.w) X.A (noteFrame (.ref a) X.env) _ _ _
    refine Sky.land Zc.steady hfr hf sk fun h3 fl3 up3 => ?_
    have J3 : L2.Inv X pins σ' H' { s' with heap := h3 } := J.landed nb fl3.1 (up.trans up3) os ag
    obtain ⟨oe3, vs3, he3, hz3, hd3⟩ := fl3.there
    have nfr : a ∉ frs (X.env :: X.outer) := fun hm => by
      obtain ⟨_, o', e', hnf⟩ := (show h3.FunFrames B (X.env :: X.outer) from fl3.2.2.1).mem hm
      rw [he3] at e'; cases e'
      exact hnf _ hd3
    have nI : sI.heap.get? a = none := by
      cases e : sI.heap.get? a with
      | none => rfl
      | some o =>
        have z := nb a o e (by rw [hs]; exact nfr)
        rw [fl3.2.1] at z; cases z
    have n0 : X.s_0.heap.get? a = none := by
      cases e : X.s_0.heap.get? a with
      | none => rfl
      | some o =>
        obtain ⟨o', z⟩ := J.base.there a o e (by rw [hex]; exact fun z => nomatch z)
        rw [nI] at z; cases z
    have npn : ∀ p ∈ X.pn ++ pins, p.1 ≠ a := fun p hp z => by
      have q := (J.pin p hp).1
      rw [z, nI] at q; cases q
    have nL : a ≠ X.env.locals := fun z => nfr (List.mem_filterMap.mpr ⟨X.env, List.mem_cons_self, by rw [hf, z]⟩)
    have nF : a ∉ X.fs := fun hm => by
      obtain ⟨e, he, q⟩ := List.mem_filterMap.mp hm
      exact nfr (List.mem_filterMap.mpr ⟨e, List.mem_cons_of_mem _ he, q⟩)
    have S3 := J3.suite he3 hd3 na nL nF
    refine wpAny_handleBy_cons (codeAny_handlers_test ?_) (by intro q; cases q)
    have LT : PySem.W.Looks (model X.prog X.w) h3 (typeOf (.ref a)) cls := fun A Q E s k q => wpAny_typeOf_ref (k _ _ he3) (by rw [hz3.1]; exact q)
    have LM := PySem.W.exm_one (M := model X.prog X.w) (J3.kIn) LT hb1
    have tst : ∀ {Q : Value → Shared → Prop} {E : Value → Shared → Prop}, Q c { s' with heap := h3 } → wpAny (model X.prog X.w) (X.A.mark (some (.ref a))) (eval (.Name x np) X.env) Q E { s' with heap := h3 } := fun {Q E} q => by
      obtain ⟨g1, g2, g3 | ⟨g3, g4, g5⟩⟩ := hc
      · exact ld_glob (X := X.suite a ((a, oe3) :: (X.pn ++ pins))) S3 g1 g3 q g2
      · exact ld_blt (X := X.suite a ((a, oe3) :: (X.pn ++ pins))) S3 g1 g3 g4 q g5 g2
    refine tst (LM.here ?_)
    refine codeAny_handlers_suite_as ?_
    refine HandSPX.lands_againZ fl3 fun h4 fl4 up4 => ?_
    have J4 : L2.Inv X pins σ' H' { s' with heap := h4 } := J.landed nb fl4.1 ((up.trans up3).trans up4) os ag
    obtain ⟨oe4, vs4, he4, hz4, hd4⟩ := fl4.there
    have S4 := J4.suite he4 hd4 na nL nF
    refine store_ok (X := X.suite a ((a, oe4) :: (X.pn ++ pins))) (v := .ref a) S4 hN hi hloc rfl (fun s5 S5 => ?_) (.inr hln)
    refine wpAny_mono ((hsu a oe4 cls d (X.pn ++ pins) hz4 ⟨_, hd4⟩).run [] s5 _ H' _ S5 (hyes a na)) (fun f s6 hsp => ?_) (fun _ _ z => False.elim z)
    cases f with
    | next =>
      obtain ⟨σ6, H6, S6, n6, q6⟩ := hsp
      have p6 := (S6.pin (a, oe4) (List.mem_append_left _ (List.mem_cons_self ..))).1
      have U := S6.unsuite ok
      have nc : ∀ y c, X.env.cells.lookup y = some c → c ≠ a := fun y c e z => by
        obtain ⟨v, o, e1, e2⟩ := U.cell y c e
        rw [z] at e1
        rw [show s6.heap.get? a = some oe4 from p6] at e1
        cases e1
        rw [hd4] at e2; cases e2
      have T6 := track (o := ExO cls d a) U n6 n0 nL nc npn (exO_new p6 hz4 hd4)
      exact gone_ok T6 hN hi hln fun s7 J7 => ⟨_, _, J7, q6⟩
    | brk => obtain ⟨_, _, _, q6⟩ := hsp; exact q6.elim
    | cont => obtain ⟨_, _, _, q6⟩ := hsp; exact q6.elim
    | ret u => obtain ⟨_, _, _, _, _, q6⟩ := hsp; exact q6.elim
  · cases f with
    | next =>
      obtain ⟨σ', H', J', q⟩ := hsp
      exact wpAny_execs_nil ⟨σ', H', J'.ofTry ok, q⟩
    | brk =>
      obtain ⟨σ', H', J', q⟩ := hsp
      exact ⟨σ', H', J'.ofTry ok, q⟩
    | cont =>
      obtain ⟨σ', H', J', q⟩ := hsp
      exact ⟨σ', H', J'.ofTry ok, q⟩
    | ret u =>
      obtain ⟨v, σ', H', J', r, q⟩ := hsp
      exact ⟨v, σ', H', J'.ofTry ok, r, q⟩
end
end Mini

set_option Elab.async false
set_option linter.all false
set_option maxRecDepth 100000
set_option maxHeartbeats 2000000
/-! MiniJ4: the law's def that tells the error of some work. -/
namespace Mini
open PySem PySem.Spec PyProof.Rows L2 LamX
/-- its body -/
structure CauP where
  (q1 q2 q3 q4 q5 q6 q7 q8 p1 p2 p3 np pos pos' : Pos)
  k : Nat
def cauBody (P : CauP) : List Stmt :=
  [.Assign [.Name "caught" P.q1] (.Constant .none P.k P.q2) P.q3,
   .Try [.Expr (.Call (.Name "work" P.p1) [] [] P.p2) P.p3] [.ExceptHandler (some (.Name "SignError" P.np)) (some "error") [.Assign [.Name "caught" P.q4] (.Name "error" P.q5) P.q6] P.pos'] [] [] P.pos,
   .Return (some (.Name "caught" P.q7)) P.q8]
def cauN : List Str := ["work", "caught", "error"]
structure CauS (sg : Scope) : Prop where
  fs : FnScope cauN ["work"] sg
  l0 : sg.names.lookup ("work" : Str) = some .local
  l1 : sg.names.lookup ("caught" : Str) = some .local
  l2 : sg.names.lookup ("error" : Str) = some .local
  g : sg.names.lookup ("SignError" : Str) = some .globalImplicit
section
variable {X : Cx} {pins : List (Addr × Obj)} {σ : L2.St} {H : Hp} {s : Shared} {f c' C0 : Addr} {params : Arguments} {body : Expr} {scope : Scope} {k : Nat} {tb : XK → TE}
/-- what is wished of the work's errors -/
def cauE (K : PySem.W.Frag) (C0 : Addr) (Q : VK) : XK := fun cls d H' => PySem.W.exmOne K cls (.ref C0) = some true ∧ ∀ a, H' a = none → Q (.ref a) (upd H' a (ExO cls d a))
theorem cau_body {qg : Str} {sg : Scope} {gA : Addr} {cdg : Value} {Eg : XK} {P : CauP} {Q : VK} (S : CauS sg) (hC0 : X.mg "SignError" = some (.ref C0)) (I : L2.Inv X pins σ H s) (L : LamS X.env.scope scope)
    (hbind : ∀ pm ctv, bindArgs (PySem.W.kla_fn "<lambda>" (X.env.qual ++ "<lambda>") params body scope (cloFrom X.env.cells scope.names []) pm (.ref c') ctv) ⟨[], []⟩ = pure [])
    (hr : Room (k + 1) (X.A.deeper (envOfC qg sg s.heap.objs.size gA cdg)))
    (hbody : ∀ (E : XK) (outer : List PySem.Env) (s2 : Shared) (H2 : Hp), Room k ((X.A.deeper (envOfC qg sg s.heap.objs.size gA cdg)).deeper (lamEnv X scope s2.heap.objs.size f c')) → PE (lamCx X (X.A.deeper (envOfC qg sg s.heap.objs.size gA cdg)) outer s2 H2 E scope f c') body (tb E))
    (mono : ∀ (E E' : XK) σ H Q Q', (∀ cls d H', E cls d H' → E' cls d H') → (∀ v H', Q v H' → Q' v H') → tb E σ H Q → tb E' σ H Q')
    (hf : H f = some (LamO (lamD X params body scope) c' f)) (hc : H c' = some (CodeO c' (X.env.qual ++ "<lambda>"))) (hq : tb (cauE X.K C0 Q) σ H (fun _ H' => Q .non H')) :
    ∃ t, PSs (cxOf (L2.CX X.prog X.w) X.prog X.w X.K X.mg X.base cauN qg sg gA cdg X.A X.stack s H Eg) (cauBody P) t ∧ t { nx := fun _ H' => Q .non H', rt := Q } (L2.start cauN [.ref f]) H := by
  have nd : cauN.Nodup := by decide
  refine ⟨_, pss_cons (ps_set (i := 1) (x := "caught") (X := cxOf (L2.CX X.prog X.w) X.prog X.w X.K X.mg X.base cauN qg sg gA cdg X.A X.stack s H Eg) nd rfl (.inl S.l1) pe_non (hf := .inr S.l1))
    (pss_cons (ps_try_keep (X := cxOf (L2.CX X.prog X.w) X.prog X.w X.K X.mg X.base cauN qg sg gA cdg X.A X.stack s H Eg) (i := 2) (n := "error") (c := .ref C0)
        (tb := fun W D σZ HZ => σZ[0]? = some (some (.ref f)) ∧ HZ f = some (LamO (lamD X params body scope) c' f) ∧ HZ c' = some (CodeO c' (X.env.qual ++ "<lambda>")) ∧ tb (WE W σZ) σ HZ (fun _ H' => D.nx σZ H')) (ts := fun _ _ _ => tAsg (tVar 2) (gName 1))
        rfl rfl rfl nd rfl S.l2 ⟨S.g, by decide, .inl hC0⟩ (fun W pn xe tk _ => ?_) (fun a oe cls d pn _ _ => ?_))
      (pss_one (ps_ret (pe_var (i := 1) (x := "caught") rfl (.inl S.l1))))), ?_⟩
  · exact pss_one (ps_expr (pe_clo (a := "work") (i := 0) I L hbind tk hr hbody rfl (.inl S.l0)))
  · exact pss_one (ps_set (i := 1) (x := "caught") nd rfl (.inl S.l1) (pe_var (i := 2) (x := "error") rfl (.inl S.l2)) (hf := .inr S.l1))
  · refine ⟨rfl, hf, hc, mono (cauE X.K C0 Q) _ σ H (fun _ H' => Q .non H') _ (fun cls d H' hE => ?_) (fun v H' hQ => ?_) hq⟩
    · exact ⟨hE.1, fun a na => ⟨.ref a, rfl, na, .ref a, rfl, hE.2 a na⟩⟩
    · exact ⟨.non, rfl, hQ⟩
/-- the def called with a known lambda -/
theorem cau_run {gA : Addr} {fd : FuncData} {P : CauP} {sg : Scope} {pg : Arguments} {Q : VK} (S : CauS sg) (F : FunD X.K "_law_caught" "_law_caught" pg (cauBody P) sg [] [] gA fd) (hb : L2.Binds X.K fd ["work"] []) (hC0 : X.mg "SignError" = some (.ref C0)) (I : L2.Inv X pins σ H s) (L : LamS X.env.scope scope)
    (hbind : ∀ pm ctv, bindArgs (PySem.W.kla_fn "<lambda>" (X.env.qual ++ "<lambda>") params body scope (cloFrom X.env.cells scope.names []) pm (.ref c') ctv) ⟨[], []⟩ = pure [])
    (hr : Room (k + 2) X.A)
    (hbody : ∀ (A : Around) (E : XK) (outer : List PySem.Env) (s2 : Shared) (H2 : Hp), A.guards = X.A.guards → Room k (A.deeper (lamEnv X scope s2.heap.objs.size f c')) → PE (lamCx X A outer s2 H2 E scope f c') body (tb E))
    (mono : ∀ (E E' : XK) σ H Q Q', (∀ cls d H', E cls d H' → E' cls d H') → (∀ v H', Q v H' → Q' v H') → tb E σ H Q → tb E' σ H Q') (hgd : X.A.guards = some [])
    (hf : H f = some (LamO (lamD X params body scope) c' f)) (hc : H c' = some (CodeO c' (X.env.qual ++ "<lambda>"))) (hq : tb (cauE X.K C0 Q) σ H (fun _ H' => Q .non H')) :
    wpAny (model X.prog X.w) X.A (call (.ref gA) [.ref f]) (EP X pins σ Q) X.xe s := by
  obtain ⟨oc, od, dV, kV, doc, pm, an, cdv, ct, osl, rfl, lk, hcd, _, _⟩ := F.ex
  have b := hb s [.ref f] I.kIn rfl
  rw [List.append_nil] at b
  have rc : codeAny (model X.prog X.w) X.A (.call (.ref gA) ⟨[.ref f], []⟩) (CR (L2.CX X.prog X.w) X.stack X.prog X.w H s Q (fun _ _ _ => False)) s := by
    refine run_ofS (N := cauN) (ps := ["work"]) (us := [.ref f]) (vs := [.ref f]) lk hcd S.fs hr I.env0 b (.cons rfl .nil) rfl fun hr' => ?_
    exact cau_body S hC0 I L hbind hr' (fun E outer s2 H2 r => hbody _ E outer s2 H2 ((deeper_guards hgd).trans hgd.symm) r) mono hf hc hq
  refine wpAny_call (codeAny_mono rc fun r s2 hq => ?_)
  cases r with
  | error e =>
    obtain ⟨_, _, _, _, _, _, _, _, _, _, _, _, z⟩ := hq
    exact z.elim
  | ok fl =>
    cases fl with
    | ret u => exact I.after hq
    | next => exact False.elim hq
    | brk => exact False.elim hq
    | cont => exact False.elim hq
end
end Mini

set_option Elab.async false
set_option linter.all false
set_option maxRecDepth 100000
/-! Mini7: the context, the checker of expressions. -/
namespace Mini
open PySem L2

/-! ### views -/
def vName : Expr → Option (Str × Pos) | .Name x p => some (x, p) | _ => none
def vConst : Expr → Option Const | .Constant c _ _ => some c | _ => none
def vTup : Expr → Option (List Expr) | .Tuple l _ _ => some l | _ => none
def vList : Expr → Option (List Expr) | .List l _ => some l | _ => none
def vBin : Expr → Option (Expr × Operator × Expr) | .BinOp a o b _ => some (a, o, b) | _ => none
def vUn : Expr → Option (UnaryOp × Expr) | .UnaryOp o a _ => some (o, a) | _ => none
def vCmp : Expr → Option (Expr × List CmpOp × List Expr) | .Compare a o b _ => some (a, o, b) | _ => none
def vBool : Expr → Option (BoolOp × List Expr × Pos) | .BoolOp o l p => some (o, l, p) | _ => none
def vIf : Expr → Option (Expr × Expr × Expr) | .IfExp c a b _ => some (c, a, b) | _ => none
def vCall : Expr → Option (Expr × List Expr × List Keyword × Pos) | .Call f a k p => some (f, a, k, p) | _ => none
def vAttr : Expr → Option (Expr × Str × Pos) | .Attribute e a p => some (e, a, p) | _ => none
def vSub : Expr → Option (Expr × Expr) | .Subscript a b _ => some (a, b) | _ => none
def vSlice : Expr → Option (Option Expr × Option Expr × Option Expr) | .Slice a b c _ => some (a, b, c) | _ => none
def vLc : Expr → Option (Expr × List Comprehension × Scope × Pos) | .ListComp e g s p => some (e, g, s, p) | _ => none
def vDict : Expr → Option (List (Option Expr) × List Expr) | .Dict k v _ => some (k, v) | _ => none
def isSet : Expr → Bool | .Set .. => true | _ => false
def isStar : Expr → Bool | .Starred .. => true | _ => false
def isComp : Expr → Bool | .ListComp .. => true | .SetComp .. => true | .DictComp .. => true | _ => false
section
variable {x : Expr}
theorem vName_ok {a : Str} {p : Pos} (h : vName x = some (a, p)) : x = .Name a p := by cases x <;> simp_all [vName]
theorem vConst_ok {c : Const} (h : vConst x = some c) : ∃ k p, x = .Constant c k p := by cases x <;> simp_all [vConst]
theorem vTup_ok {l : List Expr} (h : vTup x = some l) : ∃ k p, x = .Tuple l k p := by cases x <;> simp_all [vTup]
theorem vList_ok {l : List Expr} (h : vList x = some l) : ∃ p, x = .List l p := by cases x <;> simp_all [vList]
theorem vBin_ok {a b : Expr} {o : Operator} (h : vBin x = some (a, o, b)) : ∃ p, x = .BinOp a o b p := by cases x <;> simp_all [vBin]
theorem vUn_ok {a : Expr} {o : UnaryOp} (h : vUn x = some (o, a)) : ∃ p, x = .UnaryOp o a p := by cases x <;> simp_all [vUn]
theorem vCmp_ok {a : Expr} {o : List CmpOp} {b : List Expr} (h : vCmp x = some (a, o, b)) : ∃ p, x = .Compare a o b p := by cases x <;> simp_all [vCmp]
theorem vBool_ok {o : BoolOp} {l : List Expr} {p : Pos} (h : vBool x = some (o, l, p)) : x = .BoolOp o l p := by cases x <;> simp_all [vBool]
theorem vIf_ok {a b c : Expr} (h : vIf x = some (c, a, b)) : ∃ p, x = .IfExp c a b p := by cases x <;> simp_all [vIf]
theorem vCall_ok {f : Expr} {a : List Expr} {k : List Keyword} {p : Pos} (h : vCall x = some (f, a, k, p)) : x = .Call f a k p := by cases x <;> simp_all [vCall]
theorem vAttr_ok {e : Expr} {a : Str} {p : Pos} (h : vAttr x = some (e, a, p)) : x = .Attribute e a p := by cases x <;> simp_all [vAttr]
theorem vSub_ok {a b : Expr} (h : vSub x = some (a, b)) : ∃ p, x = .Subscript a b p := by cases x <;> simp_all [vSub]
theorem vSlice_ok {a b c : Option Expr} (h : vSlice x = some (a, b, c)) : ∃ p, x = .Slice a b c p := by cases x <;> simp_all [vSlice]
theorem vDict_ok {k : List (Option Expr)} {v : List Expr} (h : vDict x = some (k, v)) : ∃ p, x = .Dict k v p := by cases x <;> simp_all [vDict]
theorem vLc_ok {e : Expr} {gs : List Comprehension} {s : Scope} {p : Pos} (h : vLc x = some (e, gs, s, p)) : x = .ListComp e gs s p := by cases x <;> simp_all [vLc]
end
end Mini
namespace Mini
open PySem L2
section
theorem star_cons {e : Expr} {es : List Expr} {env : PySem.Env} (h : isStar e = false) : starEach (e :: es) env = (false, eval e env) :: starEach es env := by cases e <;> first | rfl | (simp [isStar] at h)
theorem star_any {pos : Pos} {env : PySem.Env} : ∀ {es : List Expr}, es.all (fun e => !isStar e) = true → (backTo pos (starEach es env)).any (·.1) = false
  | [], _ => rfl
  | e :: es, h => by
    obtain ⟨h1, h2⟩ := Bool.and_eq_true_iff.mp (show (!isStar e && es.all fun e => !isStar e) = true from h)
    rw [star_cons (by simpa using h1)]
    show (false || (backTo pos (starEach es env)).any (·.1)) = false
    rw [star_any h2]; rfl
theorem star_all {pos : Pos} {env : PySem.Env} : ∀ {es : List Expr}, es.all (fun e => !isStar e) = true → (backTo pos (starEach es env)).all (fun x => !x.1) = true
  | [], _ => rfl
  | e :: es, h => by
    obtain ⟨h1, h2⟩ := Bool.and_eq_true_iff.mp (show (!isStar e && es.all fun e => !isStar e) = true from h)
    rw [star_cons (by simpa using h1)]
    show (true && (backTo pos (starEach es env)).all (fun x => !x.1)) = true
    rw [star_all h2]; rfl
theorem set_fold {e : Expr} {env : PySem.Env} (h : isSet e = false) : ∀ x, foldedSetIterable e env x = pure x := by
  intro x
  cases e <;> first | rfl | (simp [isSet] at h)
theorem comp_swaps {e : Expr} {t : Option Expr} {l : Nat} {env : PySem.Env} (h : isComp e = false) : swapsWith e t l env = pure false := by
  cases e <;> first | rfl | (simp [isComp] at h)
end
/-! ### over what a loop or a comprehension goes -/
def iSeq (K : PySem.W.Frag) (tl : TE) : TI := fun σ H R => tl σ H fun x H1 => ∃ a, x = .ref a ∧ (((∃ xs, SqL K H1 a xs) ∧ R (Itl K a) H1) ∨ ((∃ xs, SqT K H1 a xs) ∧ R (Itt K a) H1))
theorem pi_seq {X : Cx} {tg l : Expr} {tl : TE} (hl : PE X l tl) : PI X tg l (iSeq X.K tl) := by
  refine ⟨fun pins s σ H R I h => ?_⟩
  refine thn (hl.run pins s σ H _ I h) fun v s1 ⟨x, H1, I1, r1, q1⟩ => ?_
  obtain ⟨a, e, q⟩ := q1
  subst e
  cases r1
  rcases q with ⟨⟨xs, hq⟩, q⟩ | ⟨⟨xs, hq⟩, q⟩
  · obtain ⟨its, rv, p, hz⟩ := I1.list hq
    refine PySem.wpAny_pyIter_list p.isList ?_
    refine ⟨s1.heap.objs.size, [s1.heap.objs.size], _, _, H1, rfl, I1.kept (t' := s1.toks) fun b o e => Heap.get?_push_of_some _ e, turn_list a _, ⟨_, Heap.get?_push_size _ rfl, rfl, rfl⟩, fun b hb => ?_, q⟩
    have e : b = s1.heap.objs.size := by simpa using hb
    subst e
    exact I1.fpOk (Nat.le_refl _) (I1.hok.fresh (Nat.le_refl _))
  · obtain ⟨its, rv, p, hz⟩ := I1.tuple hq
    refine PySem.wpAny_pyIter_tuple (show s1.heap.IsTuple a its.toArray from p) ?_
    refine ⟨s1.heap.objs.size, [s1.heap.objs.size], _, _, H1, rfl, I1.kept (t' := s1.toks) fun b o e => Heap.get?_push_of_some _ e, turn_tuple a _, ⟨_, Heap.get?_push_size _ rfl, rfl, rfl⟩, fun b hb => ?_, q⟩
    have e : b = s1.heap.objs.size := by simpa using hb
    subst e
    exact I1.fpOk (Nat.le_refl _) (I1.hok.fresh (Nat.le_refl _))

/-! ### the context -/
structure Ct where
  N : List Str
  sc : Scope
  /-- names whose cells are our own -/
  cl : List Str
  /-- the lambdas of the def, the errors that are caught of them, calls left for them -/
  lams : List (Expr × Scope) := []
  cs : List Str := []
  sl : Nat := 0
  /-- classes that isinstance asks of errors: the class, are all under it?, the errors' classes -/
  er : List (Str × Bool × List Str) := []
/-- what the whole program is to know: its built-ins stand, its numbers -/
def bnames : List Str := ["len", "all", "any", "abs", "tuple", "list", "int", "max", "min", "range", "zip", "enumerate", "sorted", "sum", "repr", "dict", "set", "isinstance", "bool", "str"]
structure GOk (g : G) (gi : List (Str × Int)) : Prop where
  blt : ∀ x ∈ bnames, g.mg x = none
  num : ∀ p ∈ gi, ∃ t, g.mg p.1 = some (.int p.2 t)
/-- what is known of such a class -/
structure ErF (g : G) (c : Str) (up : Bool) (cs : List Str) : Prop where
  val : (∃ C : Addr, g.mg c = some (.ref C) ∧ PySem.W.kitOne g.K (.type "NoneType") (.ref C) = some false ∧ ∀ d ∈ cs, ∃ D : Addr, g.mg d = some (.ref D) ∧ ExcC g.K D ∧ PySem.W.kitOne g.K (.ref D) (.ref C) = some (up || decide (d = c))) ∨
    (g.mg c = none ∧ c = "ValueError" ∧ up = true ∧ ∀ d ∈ cs, ∃ D : Addr, g.mg d = some (.ref D) ∧ ExcC g.K D ∧ PySem.W.kitOne g.K (.ref D) (.type "ValueError") = some true)
  ins : g.mg "isinstance" = none
def noArgs : Arguments := ⟨[], [], none, [], [], none, []⟩
/-- what is known where lambdas are made -/
structure LamC (g : G) (ct : Ct) (X : Cx) : Prop where
  tab : ∃ c P, LamX.TabB X.base X.mg c P ∧ X.env.code = .ref c ∧ (P, X.env.qual ++ "<lambda>") ∈ g.tabs ∧ ∀ p ∈ g.tabs, p.1 = P → p.2 = X.env.qual ++ "<lambda>"
  lam : ∀ k d, g.lam k = some d → ∃ b sc, ct.lams[k]? = some (b, sc) ∧ d = lamD X noArgs b sc
  has : ∀ k b sc, ct.lams[k]? = some (b, sc) → g.lam k = some (lamD X noArgs b sc)
  cau : ∃ (gA C0 : Addr) (fd : FuncData) (P : CauP) (sg : Scope) (pg : Arguments), g.mg "_law_caught" = some (.ref gA) ∧ PySem.W.keepIn g.K (.ref gA) = true ∧ CauS sg ∧ FunD g.K "_law_caught" "_law_caught" pg (cauBody P) sg [] [] gA fd ∧ L2.Binds g.K fd ["work"] [] ∧
    g.mg "SignError" = some (.ref C0) ∧ ∀ c ∈ ct.cs, ∀ C : Addr, g.mg c = some (.ref C) → PySem.W.exmOne g.K (.ref C) (.ref C0) = some true
  room : 2 ≤ ct.sl
structure COk (g : G) (ct : Ct) (n : Nat) (W : WX) (X : Cx) : Prop where
  prog : X.prog = g.P
  w : X.w = g.w
  K : X.K = g.K
  mg : X.mg = g.mg
  base : X.base = g.base
  N : X.N = ct.N
  sc : X.env.scope = ct.sc
  nd : ct.N.Nodup
  calm : X.calm = true
  room : Room (n + ct.sl) X.A
  gd : X.A.guards = some []
  fn : ∀ x ∈ ct.cl, X.fn x = true
  tk : Takes X W
  lam : ct.lams ≠ [] → LamC g ct X
  er : ∀ p ∈ ct.er, ErF g p.1 p.2.1 p.2.2
def noW : WX := fun _ _ _ _ => False
def cells (sc : Scope) : List Str := (sc.names.filter fun p => decide (sc.names.lookup p.1 = some .cell)).map (·.1)
def Ct.blk (ct : Ct) (scope : Scope) : Ct := ⟨ct.N, relS scope ct.sc, cells scope, [], [], ct.sl, ct.er⟩
/-- within a lambda -/
def Ct.lamc (ct : Ct) (scope : Scope) : Ct := ⟨ct.N, scope, [], [], [], 0, ct.er⟩
theorem mem_cells {sc : Scope} {x : Str} (h : x ∈ cells sc) : sc.names.lookup x = some .cell := by
  unfold cells at h
  obtain ⟨p, hp, rfl⟩ := List.mem_map.mp h
  exact of_decide_eq_true (List.mem_filter.mp hp).2
theorem COk.blk {g : G} {ct : Ct} {n : Nat} {W : WX} {X : Cx} (c : COk g ct n W X) (s : Shared) (H : Hp) (scope : Scope) (C : Addr) (cl : List (Str × Addr)) (fp : List Addr) : COk g (ct.blk scope) n noW (X.blk s H scope (compEnvC scope cl C X.env) fp) where
  prog := c.prog
  w := c.w
  K := c.K
  mg := c.mg
  base := c.base
  N := c.N
  sc := by
    show relabel scope X.env = relS scope ct.sc
    rw [← c.sc]
    rfl
  nd := c.nd
  calm := c.calm
  room := c.room
  gd := c.gd
  fn := fun x hx => by
    show (scope.names.lookup x == some .cell) = true
    rw [mem_cells hx]; rfl
  tk := fun u s' ⟨_, _, _, _, _, _, _, _, _, _, _, _, _, _, _, _, h⟩ => h.elim
  lam := fun h => absurd rfl h
  er := c.er

/-! ### defs -/
def spF (g : G) (φ : List PV → M PV) : Sp := fun vs H Q E => ∃ io s ps, SRp g io H s ∧ Reps g io H ps vs ∧ Ok g (fun c d _ H => E c d H) [] io H (fun io' H' _ v => ∀ x, Rep g io' H' v x → Q x H') (φ ps s)
/-- are these keywords, in that order, the parameters? -/
def kwB (ps ks : List Str) (pm : List Nat) : Bool := decide (permV pm ks = ps) && (decide ks.Nodup && (ks.all (fun k => decide (k ∈ ps)) && pm.all fun i => decide (i < ks.length)))
structure FOk (g : G) (n : Nat) (f : Str) (ps : List Str) (φ : List PV → M PV) : Prop where
  ex : ∃ (a : Addr) (fd : FuncData), g.mg f = some (.ref a) ∧ PySem.W.keepIn g.K (.ref a) = true ∧ Binds g.K fd ps [] ∧ (∀ ks pm, kwB ps ks pm = true → KBn g.K fd ps 0 ks (fun _ ws => permV pm ws) fun _ zs => permV pm zs) ∧ FnG g.P g.w g.K g.mg g.base n a fd ps (spF g φ)
abbrev Fs := List (Str × List Str)
def PhiOk (g : G) (n : Nat) (F : Fs) (Φ : Str → List PV → M PV) : Prop := ∀ p ∈ F, FOk g n p.1 p.2 (Φ p.1)

/-! ### the checker -/
def vLam : Expr → Option (Arguments × Expr × Scope) | .Lambda a b s _ => some (a, b, s) | _ => none
theorem vLam_ok {x : Expr} {a : Arguments} {b : Expr} {s : Scope} (h : vLam x = some (a, b, s)) : ∃ p, x = .Lambda a b s p := by cases x <;> simp_all [vLam]
def noArgsB : Arguments → Bool
  | ⟨[], [], none, [], [], none, []⟩ => true
  | _ => false
theorem noArgsB_ok {a : Arguments} (h : noArgsB a = true) : a = noArgs := by
  unfold noArgsB at h
  split at h
  · rfl
  · cases h
mutual
/-- equal, where that is easily told -/
def eqE : Expr → Expr → Bool
  | .Name a p, .Name b q => decide (a = b) && decide (p = q)
  | .Constant a k p, .Constant b j q => decide (a = b) && (decide (k = j) && decide (p = q))
  | .Call f l kw p, .Call f' l' kw' q => eqE f f' && (eqEs l l' && (eqKs kw kw' && decide (p = q)))
  | .Attribute a n p, .Attribute b m q => eqE a b && (decide (n = m) && decide (p = q))
  | .Subscript a i p, .Subscript b j q => eqE a b && (eqE i j && decide (p = q))
  | .Tuple l k p, .Tuple l' j q => eqEs l l' && (decide (k = j) && decide (p = q))
  | .List l p, .List l' q => eqEs l l' && decide (p = q)
  | .UnaryOp o a p, .UnaryOp o' b q => decide (o = o') && (eqE a b && decide (p = q))
  | .BinOp a o b p, .BinOp a' o' b' q => decide (o = o') && (eqE a a' && (eqE b b' && decide (p = q)))
  | _, _ => false
def eqEs : List Expr → List Expr → Bool
  | [], [] => true
  | a :: l, b :: l' => eqE a b && eqEs l l'
  | _, _ => false
def eqKs : List Keyword → List Keyword → Bool
  | [], [] => true
  | ⟨a, x, p⟩ :: l, ⟨b, y, q⟩ :: l' => decide (a = b) && (eqE x y && (decide (p = q) && eqKs l l'))
  | _, _ => false
end
mutual
theorem eqE_ok : ∀ a b : Expr, eqE a b = true → a = b
  | .Name a p, b, h => by
    cases b <;> simp only [eqE, Bool.false_eq_true, Bool.and_eq_true, decide_eq_true_eq] at h
    rw [h.1, h.2]
  | .Constant a k p, b, h => by
    cases b <;> simp only [eqE, Bool.false_eq_true, Bool.and_eq_true, decide_eq_true_eq] at h
    rw [h.1, h.2.1, h.2.2]
  | .Call f l kw p, b, h => by
    cases b <;> simp only [eqE, Bool.false_eq_true, Bool.and_eq_true, decide_eq_true_eq] at h
    rw [eqE_ok _ _ h.1, eqEs_ok _ _ h.2.1, eqKs_ok _ _ h.2.2.1, h.2.2.2]
  | .Attribute a n p, b, h => by
    cases b <;> simp only [eqE, Bool.false_eq_true, Bool.and_eq_true, decide_eq_true_eq] at h
    rw [eqE_ok _ _ h.1, h.2.1, h.2.2]
  | .Subscript a i p, b, h => by
    cases b <;> simp only [eqE, Bool.false_eq_true, Bool.and_eq_true, decide_eq_true_eq] at h
    rw [eqE_ok _ _ h.1, eqE_ok _ _ h.2.1, h.2.2]
  | .Tuple l k p, b, h => by
    cases b <;> simp only [eqE, Bool.false_eq_true, Bool.and_eq_true, decide_eq_true_eq] at h
    rw [eqEs_ok _ _ h.1, h.2.1, h.2.2]
  | .List l p, b, h => by
    cases b <;> simp only [eqE, Bool.false_eq_true, Bool.and_eq_true, decide_eq_true_eq] at h
    rw [eqEs_ok _ _ h.1, h.2]
  | .UnaryOp o a p, b, h => by
    cases b <;> simp only [eqE, Bool.false_eq_true, Bool.and_eq_true, decide_eq_true_eq] at h
    rw [h.1, eqE_ok _ _ h.2.1, h.2.2]
  | .BinOp a o b' p, b, h => by
    cases b <;> simp only [eqE, Bool.false_eq_true, Bool.and_eq_true, decide_eq_true_eq] at h
    rw [h.1, eqE_ok _ _ h.2.1, eqE_ok _ _ h.2.2.1, h.2.2.2]
  | .BoolOp .., b, h => by cases b <;> simp [eqE] at h
  | .NamedExpr .., b, h => by cases b <;> simp [eqE] at h
  | .Lambda .., b, h => by cases b <;> simp [eqE] at h
  | .IfExp .., b, h => by cases b <;> simp [eqE] at h
  | .Dict .., b, h => by cases b <;> simp [eqE] at h
  | .Set .., b, h => by cases b <;> simp [eqE] at h
  | .ListComp .., b, h => by cases b <;> simp [eqE] at h
  | .SetComp .., b, h => by cases b <;> simp [eqE] at h
  | .DictComp .., b, h => by cases b <;> simp [eqE] at h
  | .GeneratorExp .., b, h => by cases b <;> simp [eqE] at h
  | .Await .., b, h => by cases b <;> simp [eqE] at h
  | .Yield .., b, h => by cases b <;> simp [eqE] at h
  | .YieldFrom .., b, h => by cases b <;> simp [eqE] at h
  | .Compare .., b, h => by cases b <;> simp [eqE] at h
  | .FormattedValue .., b, h => by cases b <;> simp [eqE] at h
  | .JoinedStr .., b, h => by cases b <;> simp [eqE] at h
  | .Starred .., b, h => by cases b <;> simp [eqE] at h
  | .Slice .., b, h => by cases b <;> simp [eqE] at h
theorem eqEs_ok : ∀ a b : List Expr, eqEs a b = true → a = b
  | [], b, h => by cases b <;> simp_all [eqEs]
  | a :: l, b, h => by
    cases b <;> simp only [eqEs, Bool.false_eq_true, Bool.and_eq_true] at h
    rw [eqE_ok _ _ h.1, eqEs_ok _ _ h.2]
theorem eqKs_ok : ∀ a b : List Keyword, eqKs a b = true → a = b
  | [], b, h => by cases b <;> simp_all [eqKs]
  | ⟨a, x, p⟩ :: l, b, h => by
    match b, h with
    | [], h => simp [eqKs] at h
    | ⟨a', x', p'⟩ :: l', h =>
      simp only [eqKs, Bool.and_eq_true, decide_eq_true_eq] at h
      rw [h.1, eqE_ok _ _ h.2.1, h.2.2.1, eqKs_ok _ _ h.2.2.2]
end
/-- the k-th lambda -/
def lamB (ct : Ct) (k : Nat) (x : Expr) : Option (Expr × Scope) := match vLam x with
  | some (ps, b, sc) => (match ct.lams[k]? with
    | some (b', sc') => if noArgsB ps && (eqE b' b && (decide (sc' = sc) && LamX.lamSB ct.sc sc)) then some (b, sc) else none
    | none => none)
  | none => none
def visB (sc : Scope) (x : Str) : Bool := match sc.names.lookup x with
  | some .local => true
  | some .cell => true
  | some .free => true
  | _ => false
def glB (sc : Scope) (x : Str) : Bool := decide (sc.names.lookup x = some .globalImplicit)
def okN (x : Str) : Bool := !(x == ("__debug__" : Str)) && !(x == ("__classdict__" : Str))
def storB (ct : Ct) (x : Str) : Bool := decide (ct.sc.names.lookup x = some .local) || (decide (ct.sc.names.lookup x = some .cell) && decide (x ∈ ct.cl))
def nostar (es : List Expr) : Bool := es.all fun e => !isStar e
def isTupE : Expr → Bool | .Tuple .. => true | _ => false
mutual
def tgSlots : Tg → List Nat
  | .nm i => [i]
  | .tp ts => tgsSlots ts
  | .sb _ _ => []
def tgsSlots : Tgs → List Nat
  | .nil => []
  | .cons t r => tgSlots t ++ tgsSlots r
end
def subL (a b : List Nat) : Bool := a.all fun i => decide (i ∈ b)
def bltB (ct : Ct) (f : Expr) (x : Str) : Bool := match vName f with
  | some (y, _) => decide (y = x) && glB ct.sc x
  | none => false
section
variable (F : Fs) (gi : List (Str × Int))
mutual
def chkE (ct : Ct) : E → Expr → Bool
  | .var i, x => match vName x with
    | some (y, _) => decide (ct.N[i]? = some y) && (visB ct.sc y && okN y)
    | none => false
  | .non, x => match vConst x with
    | some .none => true
    | _ => false
  | .bl b, x => match vConst x with
    | some (.bool c) => decide (b = c)
    | _ => false
  | .int i, x => match vConst x with
    | some (.int j) => decide (i = j)
    | _ => false
  | .str s, x => match vConst x with
    | some (.str j) => decide (s = j)
    | _ => false
  | .gint y i, x => match vName x with
    | some (z, _) => decide (y = z) && (decide ((y, i) ∈ gi) && (glB ct.sc y && okN y))
    | none => false
  | .tup es, x => match vTup x with
    | some l => chkEs ct es l
    | none => false
  | .lst _ es, x => match vList x with
    | some l => chkEs ct es l
    | none => false
  | .op o a b, x => match vBin x with
    | some (p, q, r) => decide (q = bopO o) && (chkE ct a p && chkE ct b r)
    | none => false
  | .neg a, x => match vUn x with
    | some (q, r) => decide (q = .USub) && chkE ct a r
    | none => false
  | .not a, x => match vUn x with
    | some (q, r) => decide (q = .Not) && chkE ct a r
    | none => false
  | .cmp o a b, x => match vCmp x with
    | some (p, [q], [r]) => decide (q = copO o) && (!behindInMarks q r && (chkE ct a p && chkE ct b r))
    | _ => false
  | .chain o o' a b c, x => match vCmp x with
    | some (p, [q, q'], [r, r']) => decide (q = copO o) && (decide (q' = copO o') && (!lastMarks [q, q'] [r, r'] && (chkE ct a p && (chkE ct b r && chkE ct c r'))))
    | _ => false
  | .and a b, x => match vBool x with
    | some (.And, p :: q :: r, pos) => chkE ct a p && (if r.isEmpty then chkE ct b q else chkE ct b (.BoolOp .And (q :: r) pos))
    | _ => false
  | .or a b, x => match vBool x with
    | some (.Or, p :: q :: r, pos) => chkE ct a p && (if r.isEmpty then chkE ct b q else chkE ct b (.BoolOp .Or (q :: r) pos))
    | _ => false
  | .ite c a b, x => match vIf x with
    | some (p, q, r) => chkE ct c p && (chkE ct a q && chkE ct b r)
    | none => false
  | .call f es, x => match vCall x with
    | some (y, l, [], _) => bltB ct y f && (okN f && (F.any (fun p => decide (p.1 = f) && decide (p.2.length = l.length)) && chkEs ct es l))
    | _ => false
  | .bi b es, x => match vCall x with
    | some (y, l, [], _) => bltB ct y (biN b) && (!l.isEmpty && chkEs ct es l)
    | _ => false
  | .meth m o es, x => match vCall x with
    | some (y, l, [], pos) => (match vAttr y with
      | some (p, nm, apos) => decide (nm = mtN m) && (chkE ct o p && (chkEs ct es l && (decide (l.length < 30) && ((apos.endLine == pos.line) && decide (vCall p = none)))))
      | none => false)
    | _ => false
  | .isi a t, x => match vCall x with
    | some (y, [p, q], [], _) => bltB ct y "isinstance" && (bltB ct q (Str.ofString (tyS t)) && (!isStar p && chkE ct a p))
    | _ => false
  | .isx a k up cs, x => match vCall x with
    | some (y, [p, q], [], _) => bltB ct y "isinstance" && (bltB ct q k && (okN k && (decide ((k, up, cs) ∈ ct.er) && (!isStar p && chkE ct a p))))
    | _ => false
  | .cnt a b, x => match vCall x with
    | some (y, [q], [], pos) => (match vAttr y with
      | some (p, nm, apos) => decide (nm = "count") && (chkE ct a p && (!isStar q && (chkE ct b q && ((apos.endLine == pos.line) && decide (vCall p = none)))))
      | none => false)
    | _ => false
  | .callk f ks pm es, x => match vCall x with
    | some (y, [], kws, _) => bltB ct y f && (okN f && (!ks.isEmpty && (F.any (fun p => decide (p.1 = f) && kwB p.2 ks pm) && chkKs ct ks es kws)))
    | _ => false
  | .dict _ es, x => match vDict x with
    | some (ks, vs) => chkPs ct es ks vs && (!ks.isEmpty && decide (ks.length ≤ 15))
    | none => false
  | .dnew _ _, x => match vDict x with
    | some ([], []) => true
    | _ => false
  | .dzip _ a b, x => match vCall x with
    | some (y, [z], [], _) => bltB ct y "dict" && (match vCall z with
      | some (y2, [p, q], [], _) => bltB ct y2 "zip" && (!isStar p && (!isStar q && (chkE ct a p && chkE ct b q)))
      | _ => false)
    | _ => false
  | .lset a, x => match vCall x with
    | some (y, [z], [], _) => bltB ct y "len" && (match vCall z with
      | some (y2, [p], [], _) => bltB ct y2 "set" && (!isStar p && chkE ct a p)
      | _ => false)
    | _ => false
  | .sset a, x => match vCall x with
    | some (y, [z], [], _) => bltB ct y "sorted" && (match vCall z with
      | some (y2, [p], [], _) => bltB ct y2 "set" && (!isStar p && chkE ct a p)
      | _ => false)
    | _ => false
  | .mls a, x => match vCall x with
    | some (y, [p], [], _) => bltB ct y "list" && (!isStar p && chkE ct a p)
    | _ => false
  | .mop o a b, x => match vBin x with
    | some (p, q, r) => decide (q = bopO o) && (chkE ct a p && chkE ct b r)
    | none => false
  | .rgl k b, x => match vCall x with
    | some (y, [z], [], _) => bltB ct y (if k < 2 then "list" else "tuple") && (match vCall z with
      | some (y2, [p], [], _) => bltB ct y2 "range" && (!isStar p && chkE ct b p)
      | _ => false)
    | _ => false
  | .rgl2 k a b, x => match vCall x with
    | some (y, [z], [], _) => bltB ct y (if k < 2 then "list" else "tuple") && (match vCall z with
      | some (y2, [p, q], [], _) => bltB ct y2 "range" && (!isStar p && (!isStar q && (chkE ct a p && chkE ct b q)))
      | _ => false)
    | _ => false
  | .sub a i, x => match vSub x with
    | some (p, q) => chkE ct a p && (chkE ct i q && decide (vSlice q = none))
    | none => false
  | .slc a lo hi, x => match vSub x with
    | some (p, q) => (match vSlice q with
      | some (l, h, none) => chkE ct a p && (chkO ct lo l && chkO ct hi h)
      | _ => false)
    | none => false
  | .lc _ elt tg it ifs own, x => match vLc x with
    | some (e, [⟨t, i, fs, 0⟩], scope, _) => blkC ct.N ct.sc scope own && (subL (tgSlots tg) (own.map (·.2)) && (chkIt ct it t i && (chkTg (ct.blk scope) tg t && (chkEs (ct.blk scope) ifs fs && (decide (fs.length ≤ 1) && chkE (ct.blk scope) elt e)))))
    | _ => false
  | .lamk k, x => (lamB ct k x).isSome
  | .caught i cs es, x => match vCall x with
    | some (y, [z], [], _) => bltB ct y "_law_caught" && ((match vName z with
      | some (nm, _) => decide (ct.N[i]? = some nm) && (visB ct.sc nm && okN nm)
      | none => false) && ((cs.all fun c => decide (c ∈ ct.cs)) && (!ct.lams.isEmpty && chkLs ct es ct.lams)))
    | _ => false
  | .caughtL k cs e, x => match vCall x with
    | some (y, [z], [], _) => bltB ct y "_law_caught" && ((cs.all fun c => decide (c ∈ ct.cs)) && (match lamB ct k z with
      | some (b, sc) => chkE (ct.lamc sc) e b
      | none => false))
    | _ => false
  | .lc2 _ elt tg it ifs tg2 it2 ifs2 own own2, x => match vLc x with
    | some (e, [⟨t, i, fs, 0⟩, ⟨t2, i2, fs2, 0⟩], scope, _) => blkC ct.N ct.sc scope own && (subL (tgSlots tg) (own.map (·.2)) && (chkIt ct it t i && (chkTg (ct.blk scope) tg t && (chkEs (ct.blk scope) ifs fs && (decide (fs.length ≤ 1) &&
        (subL own2 (own.map (·.2)) && (subL (tgSlots tg2) own2 && (chkIt (ct.blk scope) it2 t2 i2 && (chkTg (ct.blk scope) tg2 t2 && (chkEs (ct.blk scope) ifs2 fs2 && (decide (fs2.length ≤ 1) && chkE (ct.blk scope) elt e)))))))))))
    | _ => false
def chkLs (ct : Ct) : Es → List (Expr × Scope) → Bool
  | .nil, l => l.isEmpty
  | .cons e r, l => match l with
    | (b, sc) :: l => LamX.lamSB ct.sc sc && (chkE (ct.lamc sc) e b && chkLs ct r l)
    | [] => false
def chkKs (ct : Ct) : List Str → Es → List Keyword → Bool
  | ks, .nil, l => ks.isEmpty && l.isEmpty
  | ks, .cons e r, l => match ks, l with
    | k :: ks, ⟨nm, x, _⟩ :: l => decide (nm = some k) && (chkE ct e x && chkKs ct ks r l)
    | _, _ => false
def chkEs (ct : Ct) : Es → List Expr → Bool
  | .nil, l => l.isEmpty
  | .cons e r, l => match l with
    | x :: l => !isStar x && (chkE ct e x && chkEs ct r l)
    | [] => false
def chkPs (ct : Ct) : Es → List (Option Expr) → List Expr → Bool
  | .nil, ks, vs => ks.isEmpty && vs.isEmpty
  | .cons k r, ks, vs => match ks with
    | some p :: ks => chkE ct k p && chkPv ct r ks vs
    | _ => false
def chkPv (ct : Ct) : Es → List (Option Expr) → List Expr → Bool
  | .nil, _, _ => false
  | .cons v r, ks, vs => match vs with
    | q :: vs => chkE ct v q && chkPs ct r ks vs
    | [] => false
def chkO (ct : Ct) : Es → Option Expr → Bool
  | .nil, x => decide (x = none)
  | .cons e _, x => match x with
    | some x => chkE ct e x
    | none => false
def chkTg (ct : Ct) : Tg → Expr → Bool
  | .nm i, x => match vName x with
    | some (y, _) => decide (ct.N[i]? = some y) && storB ct y
    | none => false
  | .tp ts, x => match vTup x with
    | some l => chkTgs ct ts l
    | none => false
  | .sb o i, x => match vSub x with
    | some (p, q) => chkE ct o p && (chkE ct i q && decide (vSlice q = none))
    | none => false
def chkTgs (ct : Ct) : Tgs → List Expr → Bool
  | .nil, l => l.isEmpty
  | .cons t r, l => match l with
    | x :: l => !isStar x && (chkTg ct t x && chkTgs ct r l)
    | [] => false
def chkIt (ct : Ct) : It → Expr → Expr → Bool
  | .val e, _, x => !isSet x && chkE ct e x
  | .rng1 b, _, x => match vCall x with
    | some (y, [p], [], _) => bltB ct y "range" && (!isStar p && chkE ct b p)
    | _ => false
  | .rng a b, _, x => match vCall x with
    | some (y, [p, q], [], _) => bltB ct y "range" && (!isStar p && (!isStar q && (chkE ct a p && chkE ct b q)))
    | _ => false
  | .zip a b, t, x => match vCall x with
    | some (y, [p, q], [], _) => isTupE t && (bltB ct y "zip" && (!isStar p && (!isStar q && (chkE ct a p && chkE ct b q))))
    | _ => false
  | .enum a, t, x => match vCall x with
    | some (y, [p], [], _) => isTupE t && (bltB ct y "enumerate" && (!isStar p && chkE ct a p))
    | _ => false
end
end
end Mini

set_option Elab.async false
set_option linter.all false
set_option maxRecDepth 100000
/-! Mini8: expressions, piece by piece. -/
namespace Mini
open PySem L2
section
variable {g : G} {ct : Ct} {n : Nat} {W : WX} {X : Cx} {a b d : Expr} {ma mb md : Env → M PV} {pos : Pos}
theorem s_ret {e : Expr} {v : PV} {w : V} (h : PE X e (tC w)) (r : ∀ io H, Rep g io H v w) : PE X e (tE g W fun _ => M.ret v) :=
  PE.wk h fun σ H Q ⟨io, ρ, s, E, S, h⟩ => h.ret S w (r io H)
theorem s_var {i : Nat} {x : Str} {p : Pos} (c : COk g ct n W X) (h1 : ct.N[i]? = some x) (h2 : visB ct.sc x = true) (h3 : okN x = true) : PE X (.Name x p) (tE g W fun ρ => M.opt (ρ[i]?.join)) := by
  obtain ⟨n1, n2⟩ := Bool.and_eq_true_iff.mp h3
  refine PE.wk (pe_var (i := i) (by rw [c.N]; exact h1) ?_ (by simpa using n1) (by simpa using n2)) fun σ H Q ⟨io, ρ, s, E, S, h⟩ => ?_
  · rw [c.sc]
    unfold visB at h2
    unfold Vis
    split at h2
    · exact .inl (by assumption)
    · exact .inr (.inl (by assumption))
    · exact .inr (.inr (by assumption))
    · cases h2
  · obtain ⟨v, e, hP⟩ := opt_ok h
    have e' : ρ[i]? = some (some v) := by
      cases q : ρ[i]? with
      | none => rw [q] at e; cases e
      | some o => rw [q] at e; have e : o = some v := e; rw [e]
    obtain ⟨x', e1, r⟩ := E.at_ i v e'
    exact ⟨x', e1, hP io H (Gr.refl _ _) S x' r⟩
theorem gl_of (c : COk g ct n W X) {x : Str} (h : glB ct.sc x = true) : Gl X x := by
  show X.env.scope.names.lookup x = some .globalImplicit
  rw [c.sc]; exact of_decide_eq_true h
theorem s_gint {gi : List (Str × Int)} {x : Str} {i : Int} {p : Pos} (c : COk g ct n W X) (G' : GOk g gi) (h1 : (x, i) ∈ gi) (h2 : glB ct.sc x = true) (h3 : okN x = true) : PE X (.Name x p) (tE g W fun _ => M.ret (.int i)) := by
  obtain ⟨n1, n2⟩ := Bool.and_eq_true_iff.mp h3
  obtain ⟨t, ht⟩ := G'.num _ h1
  exact s_ret (pe_glob (gl_of c h2) (by rw [c.mg]; exact ht) (v := .int i) ⟨t, rfl⟩ (by simpa using n1)) fun _ _ => .int i
theorem s_tup {es : List Expr} {me : Env → M (List PV)} {k : Nat} (c : COk g ct n W X) (h : PA X es (tA g W me)) : PE X (.Tuple es k pos) (tE g W fun ρ => (me ρ).bnd fun vs => if szOk vs.length then M.ret (.tup vs) else M.stuck) := by
  refine PE.wk (pe_tup h) fun σ H Q ⟨io, ρ, s, E, S, h⟩ => ?_
  refine tA_run E S h.bnd fun io1 H1 s1 vs xs q1 E1 S1 h1 r1 => ?_
  by_cases hz : szOk vs.length = true
  · rw [if_pos hz] at h1
    refine ⟨by rw [← r1.length]; exact szOk_iff.mp hz, fun p hp => ?_⟩
    have gr : Gr io1 H1 io1 (upd H1 p (.tup xs)) := Gr.new hp
    exact h1 io1 _ gr (S1.new hp) _ (.tup upd_same (r1.grow gr S1.sto))
  · rw [if_neg hz] at h1
    exact h1.elim
theorem mkLst_ok {σ : St} {io : Io} {H : Hp} {s : Store} {mu : Bool} {vs : List PV} {Q : VK} {xs : List V} (S : SRp g io H s) (r : Reps g io H vs xs) (h : Ok g W σ io H (fun io' H' _ v => ∀ x, Rep g io' H' v x → Q x H') (mkLst mu vs s)) :
    xs.length ≤ sizeLine ∧ ∀ p, H p = none → Q (.ref p) (upd H p (.lst xs)) := by
  unfold mkLst at h
  by_cases hz : szOk vs.length = true
  · rw [if_pos hz] at h
    refine ⟨by rw [← r.length]; exact szOk_iff.mp hz, fun p hp => ?_⟩
    cases mu with
    | false =>
      have gr : Gr io H io (upd H p (.lst xs)) := Gr.new hp
      exact h io _ gr (S.new hp) _ (.lst (S.fresh hp) upd_same (r.grow gr S.sto))
    | true =>
      have gr : Gr io H (io.app [p]) (upd H p (.lst xs)) := Gr.newS hp
      refine h (io.app [p]) _ gr (S.newS hp (.lst upd_same (r.grow gr S.sto))) _ (.ref ?_)
      show (io.at_ ++ [p])[s.length]? = some p
      rw [← S.len, List.getElem?_append_right (Nat.le_refl _), Nat.sub_self]
      rfl
  · rw [if_neg hz] at h
    exact h.elim
theorem s_lst {es : List Expr} {me : Env → M (List PV)} {mu : Bool} (c : COk g ct n W X) (h : PA X es (tA g W me)) : PE X (.List es pos) (tE g W fun ρ => (me ρ).bnd fun vs => mkLst mu vs) := by
  refine PE.wk (pe_lst h) fun σ H Q ⟨io, ρ, s, E, S, h⟩ => ?_
  refine tA_run E S h.bnd fun io1 H1 s1 vs xs q1 E1 S1 h1 r1 => ?_
  exact mkLst_ok S1 r1 h1
theorem s_op (c : COk g ct n W X) {o : Bop} (ha : PE X a (tE g W ma)) (hb : PE X b (tE g W mb)) : PE X (.BinOp a (bopO o) b pos) (tE g W fun ρ => (ma ρ).bnd fun x => (mb ρ).bnd fun y => M.lift (bop o x y)) := by
  refine PE.wk (pe_op (opR c.K o) ha hb) fun σ H Q ⟨io, ρ, s, E, S, h⟩ => ?_
  refine tE_run E S h.bnd fun io1 H1 s1 x xv q1 E1 S1 h1 r1 => ?_
  refine tE_run E1 S1 h1.bnd fun io2 H2 s2 y yv q2 E2 S2 h2 r2 => ?_
  obtain ⟨v, hv, hP⟩ := lift_ok h2
  exact ⟨io2, s2, x, y, v, S2, r1.grow q2 S1.sto, r2, hv, fun io' H' z q S' rz => hP io' H' q S' z rz⟩
theorem s_neg (c : COk g ct n W X) (ha : PE X a (tE g W ma)) : PE X (.UnaryOp .USub a pos) (tE g W fun ρ => (ma ρ).bnd fun x => M.lift fun _ => negV x) := by
  refine PE.wk (pe_un (unR_neg (g := g)) ha) fun σ H Q ⟨io, ρ, s, E, S, h⟩ => ?_
  refine tE_run E S h.bnd fun io1 H1 s1 x xv q1 E1 S1 h1 r1 => ?_
  obtain ⟨v, hv, hP⟩ := lift_ok h1
  exact ⟨io1, s1, x, v, S1, r1, hv, fun io' H' z q S' rz => hP io' H' q S' z rz⟩
theorem units_of (c : COk g ct n W X) : X.A.units + 65 < cLine := by have := c.room.un; omega
theorem cmp_lead {o : Cop} {Q : VK} (E : ERp g io H ρ σ) (S : SRp g io H s) (h : Ok g W σ io H (fun io' H' _ v => ∀ x, Rep g io' H' v x → Q x H') (((ma ρ).bnd fun x => (mb ρ).bnd fun y => (M.lift (cop o x y)).bnd fun c => M.ret (.bl c)) s)) :
    tOp (rBb g (cop o)) (tE g W ma) (tE g W mb) σ H Q := by
  refine tE_run E S h.bnd fun io1 H1 s1 x xv q1 E1 S1 h1 r1 => ?_
  refine tE_run E1 S1 h1.bnd fun io2 H2 s2 y yv q2 E2 S2 h2 r2 => ?_
  obtain ⟨v, hv, hP⟩ := lift_ok h2.bnd
  exact ⟨io2, s2, x, y, v, S2, r1.grow q2 S1.sto, r2, hv, (hP io2 H2 (Gr.refl _ _) S2).ret S2 _ (.bl v)⟩
theorem s_cmp (c : COk g ct n W X) {o : Cop} (ha : PE X a (tE g W ma)) (hb : PE X b (tE g W mb)) (hm : behindInMarks (copO o) b = false) : PE X (.Compare a [copO o] [b] pos) (tE g W fun ρ => (ma ρ).bnd fun x => (mb ρ).bnd fun y => (M.lift (cop o x y)).bnd fun c => M.ret (.bl c)) :=
  PE.wk (pe_cmpR (cmpR c.K (units_of c) o) ha hb hm) fun σ H Q ⟨io, ρ, s, E, S, h⟩ => cmp_lead E S h
theorem tB_of {io : Io} {H : Hp} {σ : St} {s : Store} {v : Bool} {Q : Bool → Hp → Prop} (S : SRp g io H s) (h : Ok g W σ io H (fun _ H' _ v => Q v H') (truthM (.bl v) s)) : Q v H := by
  obtain ⟨k, hk, hP⟩ := lift_ok h
  cases hk
  exact hP io H (Gr.refl _ _) S
theorem t_cmp (c : COk g ct n W X) {o : Cop} (ha : PE X a (tE g W ma)) (hb : PE X b (tE g W mb)) (hm : behindInMarks (copO o) b = false) : PT X (.Compare a [copO o] [b] pos) (tT g W fun ρ => (((ma ρ).bnd fun x => (mb ρ).bnd fun y => (M.lift (cop o x y)).bnd fun c => M.ret (.bl c))).bnd truthM) := by
  refine PT.wk (pt_cmpR (cmpR c.K (units_of c) o) ha hb hm) fun σ H Q ⟨io, ρ, s, E, S, h⟩ => ?_
  have h' := h.bnd
  refine tE_run E S h'.bnd fun io1 H1 s1 x xv q1 E1 S1 h1 r1 => ?_
  refine tE_run E1 S1 h1.bnd fun io2 H2 s2 y yv q2 E2 S2 h2 r2 => ?_
  obtain ⟨v, hv, hP⟩ := lift_ok h2.bnd
  refine ⟨io2, s2, x, y, v, S2, r1.grow q2 S1.sto, r2, hv, v, rfl, ?_⟩
  exact tB_of S2 ((hP io2 H2 (Gr.refl _ _) S2).ret S2)
theorem s_chain (c : COk g ct n W X) {o o' : Cop} (ha : PE X a (tE g W ma)) (hb : PE X b (tE g W mb)) (hd : PE X d (tE g W md)) (hm : lastMarks [copO o, copO o'] [b, d] = false) :
    PE X (.Compare a [copO o, copO o'] [b, d] pos) (tE g W fun ρ => (ma ρ).bnd fun x => (mb ρ).bnd fun y => (M.lift (cop o x y)).bnd fun z => if z then (md ρ).bnd fun u => (M.lift (cop o' y u)).bnd fun c => M.ret (.bl c) else M.ret (.bl false)) := by
  refine PE.wk (pe_chain (cmpR c.K (units_of c) o) (cmpR c.K (units_of c) o') ha hb hd hm) fun σ H Q ⟨io, ρ, s, E, S, h⟩ => ?_
  refine tE_run E S h.bnd fun io1 H1 s1 x xv q1 E1 S1 h1 r1 => ?_
  refine tE_run E1 S1 h1.bnd fun io2 H2 s2 y yv q2 E2 S2 h2 r2 => ?_
  obtain ⟨v, hv, hP⟩ := lift_ok h2.bnd
  refine ⟨io2, s2, x, y, v, S2, r1.grow q2 S1.sto, r2, hv, v, rfl, ?_⟩
  have h3 := hP io2 H2 (Gr.refl _ _) S2
  cases v with
  | false => exact h3.ret S2 _ (.bl false)
  | true =>
    refine tE_run E2 S2 (Ok.bnd h3) fun io4 H4 s4 u uv q4 E4 S4 h4 r4 => ?_
    obtain ⟨v', hv', hP'⟩ := lift_ok h4.bnd
    exact ⟨io4, s4, y, u, v', S4, r2.grow q4 S2.sto, r4, hv', (hP' io4 H4 (Gr.refl _ _) S4).ret S4 _ (.bl v')⟩
theorem t_chain (c : COk g ct n W X) {o o' : Cop} (ha : PE X a (tE g W ma)) (hb : PE X b (tE g W mb)) (hd : PE X d (tE g W md)) (hm : lastMarks [copO o, copO o'] [b, d] = false) :
    PT X (.Compare a [copO o, copO o'] [b, d] pos) (tT g W fun ρ => ((ma ρ).bnd fun x => (mb ρ).bnd fun y => (M.lift (cop o x y)).bnd fun z => if z then (md ρ).bnd fun u => (M.lift (cop o' y u)).bnd fun c => M.ret (.bl c) else M.ret (.bl false)).bnd truthM) := by
  refine PT.wk (pt_chain (cmpR c.K (units_of c) o) (cmpR c.K (units_of c) o') ha hb hd hm) fun σ H Q ⟨io, ρ, s, E, S, h⟩ => ?_
  have h' := h.bnd
  refine tE_run E S h'.bnd fun io1 H1 s1 x xv q1 E1 S1 h1 r1 => ?_
  refine tE_run E1 S1 h1.bnd fun io2 H2 s2 y yv q2 E2 S2 h2 r2 => ?_
  obtain ⟨v, hv, hP⟩ := lift_ok h2.bnd
  refine ⟨io2, s2, x, y, v, S2, r1.grow q2 S1.sto, r2, hv, v, rfl, ?_⟩
  have h3 := hP io2 H2 (Gr.refl _ _) S2
  cases v with
  | false => exact ⟨false, rfl, tB_of S2 (h3.ret S2)⟩
  | true =>
    refine tE_run E2 S2 (Ok.bnd h3) fun io4 H4 s4 u uv q4 E4 S4 h4 r4 => ?_
    obtain ⟨v', hv', hP'⟩ := lift_ok h4.bnd
    exact ⟨io4, s4, y, u, v', S4, r2.grow q4 S2.sto, r4, hv', v', rfl, tB_of S4 ((hP' io4 H4 (Gr.refl _ _) S4).ret S4)⟩
theorem s_not (c : COk g ct n W X) (ha : PE X a (tE g W ma)) : PE X (.UnaryOp .Not a pos) (tE g W fun ρ => (ma ρ).bnd fun x => (truthM x).bnd fun b => M.ret (.bl (!b))) := by
  refine PE.wk (pe_notT ha) fun σ H Q ⟨io, ρ, s, E, S, h⟩ => ?_
  refine tE_run E S h.bnd fun io1 H1 s1 x xv q1 E1 S1 h1 r1 => ?_
  obtain ⟨k, hk, hP⟩ := lift_ok h1.bnd
  exact ⟨k, by rw [c.K]; exact tru_rep S1 r1 hk, (hP io1 H1 (Gr.refl _ _) S1).ret S1 _ (.bl _)⟩
theorem t_not (c : COk g ct n W X) (ha : PT X a (tT g W fun ρ => (ma ρ).bnd truthM)) : PT X (.UnaryOp .Not a pos) (tT g W fun ρ => ((ma ρ).bnd fun x => (truthM x).bnd fun b => M.ret (.bl (!b))).bnd truthM) := by
  refine PT.wk (pt_not ha) fun σ H Q ⟨io, ρ, s, E, S, h⟩ => ?_
  refine ⟨io, ρ, s, E, S, ?_⟩
  show Ok g W σ io H _ ((ma ρ).bnd truthM s)
  cases e : ma ρ s with
  | stuck => simp only [M.bnd, e] at h; exact h.elim
  | exc x s1 => simp only [M.bnd, e] at h ⊢; exact h
  | ok x s1 =>
    simp only [M.bnd, e] at h ⊢
    cases ek : truthM x s1 with
    | stuck => rw [ek] at h; exact h
    | exc x s1 => rw [ek] at h; exact h
    | ok k s2 =>
      rw [ek] at h
      exact h
theorem s_and {r : List Expr} {pos : Pos} (c : COk g ct n W X) (ha : PE X a (tE g W ma)) (hb : PE X (.BoolOp .And (b :: r) pos) (tE g W mb)) : PE X (.BoolOp .And (a :: b :: r) pos) (tE g W fun ρ => (ma ρ).bnd fun x => (truthM x).bnd fun k => if k then mb ρ else M.ret x) := by
  refine PE.wk (pe_andT ha hb) fun σ H Q ⟨io, ρ, s, E, S, h⟩ => ?_
  refine tE_run E S h.bnd fun io1 H1 s1 x xv q1 E1 S1 h1 r1 => ?_
  obtain ⟨k, hk, hP⟩ := lift_ok h1.bnd
  refine ⟨k, by rw [c.K]; exact tru_rep S1 r1 hk, ?_⟩
  have h2 := hP io1 H1 (Gr.refl _ _) S1
  cases k with
  | false => exact h2.ret S1 _ r1
  | true => exact ⟨io1, ρ, s1, E1, S1, h2⟩
theorem s_or {r : List Expr} {pos : Pos} (c : COk g ct n W X) (ha : PE X a (tE g W ma)) (hb : PE X (.BoolOp .Or (b :: r) pos) (tE g W mb)) : PE X (.BoolOp .Or (a :: b :: r) pos) (tE g W fun ρ => (ma ρ).bnd fun x => (truthM x).bnd fun k => if k then M.ret x else mb ρ) := by
  refine PE.wk (pe_orT ha hb) fun σ H Q ⟨io, ρ, s, E, S, h⟩ => ?_
  refine tE_run E S h.bnd fun io1 H1 s1 x xv q1 E1 S1 h1 r1 => ?_
  obtain ⟨k, hk, hP⟩ := lift_ok h1.bnd
  refine ⟨k, by rw [c.K]; exact tru_rep S1 r1 hk, ?_⟩
  have h2 := hP io1 H1 (Gr.refl _ _) S1
  cases k with
  | true => exact h2.ret S1 _ r1
  | false => exact ⟨io1, ρ, s1, E1, S1, h2⟩
end
end Mini

set_option Elab.async false
set_option linter.all false
set_option maxRecDepth 100000
/-! Mini9: tests, calls, subscripts, walks, targets, comprehensions. -/
namespace Mini
open PySem L2
theorem stays_watch {s : Store} {p : PV} {ps : List PV} (e : seqOf s p = some ps) : stays (watch s p) s = true := by
  cases p with
  | ref n =>
    cases h : s[n]? with
    | none => simp [watch, h, stays]
    | some o =>
      cases o with
      | lst xs => simp [watch, h, stays, peqs_refl]
      | dic _ _ => simp [watch, h, stays]
      | ins _ _ _ => simp [watch, h, stays]
  | _ => rfl
def plainT : Expr → Bool
  | .UnaryOp .Not _ _ => false
  | .BoolOp .. => false
  | .IfExp .. => false
  | .Compare .. => false
  | _ => true
def notBool : Expr → Bool | .BoolOp .. => false | _ => true
theorem plain_is {x : Expr} {env : PySem.Env} (h : plainT x = true) : ∀ whole, isTrue x env whole = (do let v ← whole; standAt x.pos; holding [v] (truthy v)) := by
  intro whole
  cases x with
  | UnaryOp o a p => cases o <;> first | rfl | (simp [plainT] at h)
  | BoolOp _ _ _ => simp [plainT] at h
  | IfExp _ _ _ _ => simp [plainT] at h
  | Compare _ _ _ _ => simp [plainT] at h
  | _ => rfl
section
variable {g : G} {ct : Ct} {n : Nat} {W : WX} {X : Cx} {a b d : Expr} {ma mb md : Env → M PV} {pos : Pos}
theorem t_gen (c : COk g ct n W X) (ha : PE X a (tE g W ma)) (hp : plainT a = true) : PT X a (tT g W fun ρ => (ma ρ).bnd truthM) := by
  refine PT.wk (pt_truth ha (plain_is hp)) fun σ H Q ⟨io, ρ, s, E, S, h⟩ => ?_
  refine tE_run E S h.bnd fun io1 H1 s1 x xv q1 E1 S1 h1 r1 => ?_
  obtain ⟨k, hk, hP⟩ := lift_ok h1
  exact ⟨k, by rw [c.K]; exact tru_rep S1 r1 hk, hP io1 H1 (Gr.refl _ _) S1⟩
theorem t_and {r : List Expr} (ha : PT X a (tT g W fun ρ => (ma ρ).bnd truthM)) (hb : PW X (.BoolOp .And (b :: r) pos) (tT g W fun ρ => (mb ρ).bnd truthM)) :
    PW X (.BoolOp .And (a :: b :: r) pos) (tT g W fun ρ => ((ma ρ).bnd fun x => (truthM x).bnd fun k => if k then mb ρ else M.ret x).bnd truthM) := by
  refine PW.wk (pw_and ha hb) fun σ H Q ⟨io, ρ, s, E, S, h⟩ => ?_
  refine ⟨io, ρ, s, E, S, ?_⟩
  show Ok g W σ io H _ ((ma ρ).bnd truthM s)
  cases e : ma ρ s with
  | stuck => simp only [M.bnd, e] at h; exact h.elim
  | exc x s1 => simp only [M.bnd, e] at h ⊢; exact h
  | ok x s1 =>
    simp only [M.bnd, e] at h ⊢
    cases ek : truth s1 x with
    | none => simp only [truthM, M.lift, ek] at h; exact h.elim
    | some k =>
      simp only [truthM, M.lift, ek] at h ⊢
      intro io' H' gr S'
      cases k with
      | true =>
        rw [if_pos rfl]
        rw [if_pos rfl] at h
        exact ⟨io', ρ, s1, E.grow gr S.sto, S', Ok.gr h gr⟩
      | false =>
        rw [if_neg (by decide)]
        rw [if_neg (by decide)] at h
        simp only [M.ret, ek] at h
        exact h io' H' gr S'
theorem t_or {r : List Expr} (ha : PT X a (tT g W fun ρ => (ma ρ).bnd truthM)) (hb : PW X (.BoolOp .Or (b :: r) pos) (tT g W fun ρ => (mb ρ).bnd truthM)) :
    PW X (.BoolOp .Or (a :: b :: r) pos) (tT g W fun ρ => ((ma ρ).bnd fun x => (truthM x).bnd fun k => if k then M.ret x else mb ρ).bnd truthM) := by
  refine PW.wk (pw_or ha hb) fun σ H Q ⟨io, ρ, s, E, S, h⟩ => ?_
  refine ⟨io, ρ, s, E, S, ?_⟩
  show Ok g W σ io H _ ((ma ρ).bnd truthM s)
  cases e : ma ρ s with
  | stuck => simp only [M.bnd, e] at h; exact h.elim
  | exc x s1 => simp only [M.bnd, e] at h ⊢; exact h
  | ok x s1 =>
    simp only [M.bnd, e] at h ⊢
    cases ek : truth s1 x with
    | none => simp only [truthM, M.lift, ek] at h; exact h.elim
    | some k =>
      simp only [truthM, M.lift, ek] at h ⊢
      intro io' H' gr S'
      cases k with
      | false =>
        rw [if_neg (by decide)]
        rw [if_neg (by decide)] at h
        exact ⟨io', ρ, s1, E.grow gr S.sto, S', Ok.gr h gr⟩
      | true =>
        rw [if_pos rfl]
        rw [if_pos rfl] at h
        simp only [M.ret, ek] at h
        exact h io' H' gr S'
theorem ite_lead {α : Type} {P : Io → Hp → Store → α → Prop} {σ : St} {io : Io} {H : Hp} {ρ : Env} {s : Store} {mc : Env → M PV} {f1 f2 : M α} (E : ERp g io H ρ σ) (S : SRp g io H s)
    (h : Ok g W σ io H P (((mc ρ).bnd fun x => (truthM x).bnd fun k => if k then f1 else f2) s)) :
    tT g W (fun ρ => (mc ρ).bnd truthM) σ H fun k H' => ∃ io' s', ERp g io' H' ρ σ ∧ SRp g io' H' s' ∧ Gr io H io' H' ∧ Ok g W σ io' H' P ((if k = true then f1 else f2) s') := by
  refine ⟨io, ρ, s, E, S, ?_⟩
  show Ok g W σ io H _ ((mc ρ).bnd truthM s)
  cases e : mc ρ s with
  | stuck => simp only [M.bnd, e] at h; exact h.elim
  | exc x s1 => simp only [M.bnd, e] at h ⊢; exact h
  | ok x s1 =>
    simp only [M.bnd, e] at h ⊢
    cases ek : truth s1 x with
    | none => simp only [truthM, M.lift, ek] at h; exact h.elim
    | some k =>
      simp only [truthM, M.lift, ek] at h ⊢
      intro io' H' gr S'
      exact ⟨io', s1, E.grow gr S.sto, S', gr, Ok.gr h gr⟩
theorem s_ite {mc : Env → M PV} (hc : PT X d (tT g W fun ρ => (mc ρ).bnd truthM)) (ha : PE X a (tE g W ma)) (hb : PE X b (tE g W mb)) :
    PE X (.IfExp d a b pos) (tE g W fun ρ => (mc ρ).bnd fun x => (truthM x).bnd fun k => if k then ma ρ else mb ρ) := by
  refine PE.wk (pe_ifExp hc ha hb) fun σ H Q ⟨io, ρ, s, E, S, h⟩ => ?_
  obtain ⟨io0, ρ0, s0, E0, S0, h0⟩ := ite_lead E S h
  refine ⟨io0, ρ0, s0, E0, S0, h0.imp fun io' H' s' k _ _ ⟨io1, s1, E1, S1, _, h1⟩ => ?_⟩
  cases k with
  | true => exact ⟨io1, ρ, s1, E1, S1, h1⟩
  | false => exact ⟨io1, ρ, s1, E1, S1, h1⟩
def tIfT (c ta tb : TT) : TT := fun σ H Q => c σ H fun k H1 => if k = true then ta σ H1 Q else tb σ H1 Q
theorem pt_ifT {tc ta tb : TT} (hc : PT X d tc) (ha : PT X a ta) (hb : PT X b tb) : PT X (.IfExp d a b pos) (tIfT tc ta tb) := by
  refine ⟨fun pins s σ H Q I h => ?_⟩
  refine PyProof.Rows.isTrue_IfExp (thn (hc.run pins s σ H _ I h) fun k s1 ⟨H1, I1, q1⟩ => ?_)
  cases k with
  | true => exact ha.run pins s1 σ H1 Q I1 q1
  | false => exact hb.run pins s1 σ H1 Q I1 q1
theorem t_ite {mc : Env → M PV} (hc : PT X d (tT g W fun ρ => (mc ρ).bnd truthM)) (ha : PT X a (tT g W fun ρ => (ma ρ).bnd truthM)) (hb : PT X b (tT g W fun ρ => (mb ρ).bnd truthM)) :
    PT X (.IfExp d a b pos) (tT g W fun ρ => ((mc ρ).bnd fun x => (truthM x).bnd fun k => if k then ma ρ else mb ρ).bnd truthM) := by
  refine PT.wk (pt_ifT hc ha hb) fun σ H Q ⟨io, ρ, s, E, S, h⟩ => ?_
  have h' : Ok g W σ io H (fun _ H' _ v => Q v H') (((mc ρ).bnd fun x => (truthM x).bnd fun k => if k then (ma ρ).bnd truthM else (mb ρ).bnd truthM) s) := by
    cases e : mc ρ s with
    | stuck => simp only [M.bnd, e] at h; exact h.elim
    | exc x s1 => simp only [M.bnd, e] at h ⊢; exact h
    | ok x s1 =>
      simp only [M.bnd, e] at h ⊢
      cases ek : truth s1 x with
      | none => simp only [truthM, M.lift, ek] at h; exact h.elim
      | some k =>
        simp only [truthM, M.lift, ek] at h ⊢
        cases k with
        | true => exact h
        | false => exact h
  obtain ⟨io0, ρ0, s0, E0, S0, h0⟩ := ite_lead E S h'
  refine ⟨io0, ρ0, s0, E0, S0, h0.imp fun io' H' s' k _ _ ⟨io1, s1, E1, S1, _, h1⟩ => ?_⟩
  cases k with
  | true => exact ⟨io1, ρ, s1, E1, S1, h1⟩
  | false => exact ⟨io1, ρ, s1, E1, S1, h1⟩

/-! ### arguments -/
theorem a_nil : PA X [] (tA g W fun _ => M.ret []) := PA.wk pa_nil fun σ H Q ⟨io, ρ, s, E, S, h⟩ => h.ret S [] .nil
theorem a_cons {e : Expr} {es : List Expr} {me : Env → M (List PV)} (hs : isStar e = false) (ha : PE X e (tE g W ma)) (hr : PA X es (tA g W me)) :
    PA X (e :: es) (tA g W fun ρ => (ma ρ).bnd fun v => (me ρ).bnd fun vs => M.ret (v :: vs)) := by
  refine PA.wk (pa_cons ha hr (star_cons hs)) fun σ H Q ⟨io, ρ, s, E, S, h⟩ => ?_
  refine tE_run E S h.bnd fun io1 H1 s1 x xv q1 E1 S1 h1 r1 => ?_
  refine tA_run E1 S1 h1.bnd fun io2 H2 s2 y yv q2 E2 S2 h2 r2 => ?_
  exact h2.ret S2 _ (.cons (r1.grow q2 S1.sto) r2)
theorem a_one (hs : isStar a = false) (ha : PE X a (tE g W ma)) : PA X [a] (tCons (tE g W ma) tNil) := pa_cons ha pa_nil (star_cons hs)
theorem a_two (hs : isStar a = false) (hs2 : isStar b = false) (ha : PE X a (tE g W ma)) (hb : PE X b (tE g W mb)) : PA X [a, b] (tCons (tE g W ma) (tCons (tE g W mb) tNil)) := pa_cons ha (a_one hs2 hb) (star_cons hs)
theorem gl_blt (c : COk g ct n W X) {f : Expr} {x : Str} (h : bltB ct f x = true) : Gl X x ∧ ∃ p, f = .Name x p := by
  unfold bltB at h
  split at h
  · rename_i y p e
    obtain ⟨h1, h2⟩ := Bool.and_eq_true_iff.mp h
    have e1 := of_decide_eq_true h1
    subst e1
    exact ⟨gl_of c h2, p, vName_ok e⟩
  · cases h
theorem Ok.toF {α : Type} {P : Io → Hp → Store → α → Prop} {σ : St} {io : Io} {H : Hp} {r : R α} (h : Ok g W σ io H P r) : Ok g (fun c d _ H => W c d σ H) [] io H P r := by
  cases r with
  | ok _ _ => exact h
  | exc _ _ => exact h
  | stuck => exact h
theorem s_call {f : Str} {ps : List Str} {φ : List PV → M PV} {e : Expr} {es : List Expr} {me : Env → M (List PV)} {p : Pos} (c : COk g ct n W X) (F : FOk g n f ps φ) (hg : Gl X f) (hn : okN f = true) (hst : nostar (e :: es) = true) (he : PA X (e :: es) (tA g W me)) :
    PE X (.Call (.Name f p) (e :: es) [] pos) (tE g W fun ρ => (me ρ).bnd fun vs => φ vs) := by
  obtain ⟨fa, fd, hm, hk, hb, hkw, hF⟩ := F.ex
  obtain ⟨n1, _⟩ := Bool.and_eq_true_iff.mp hn
  have n1 : (f == ("__debug__" : Str)) = false := by simpa using n1
  rw [← c.K] at hk hb hF
  rw [← c.mg] at hm hF
  rw [← c.prog, ← c.w, ← c.base] at hF
  obtain ⟨s1, s2⟩ := Bool.and_eq_true_iff.mp (show (!isStar e && es.all fun e => !isStar e) = true from hst)
  refine ⟨fun pins s σ H Q I ⟨io, ρ, st, E, S, h⟩ => ?_⟩
  have h' : tA g W me σ H fun vs H1 => spF g φ vs H1 Q (WE W σ) := by
    refine tA_run E S (Ok.bnd h) fun io1 H1 s1 x xv q1 E1 S1 h1 r1 => ?_
    exact ⟨io1, s1, x, S1, r1, h1.toF⟩
  refine PySem.wpAny_Call_Name_kw (ld_glob I hg hm ?_ n1)
  refine PySem.W.callWith_K (h₀ := X.base) I.ok.mod.kin hk (thn (he.run pos pins s σ H _ I h') fun us s1 ⟨vs, H1, I1, r, q⟩ => ⟨I1.kIn, ?_⟩) (star_cons (by simpa using s1)) (star_any s2)
  exact runG hF (c.room.mono (Nat.le_add_right _ _)) c.gd hb c.tk I1 r q
theorem s_call0 {f : Str} {ps : List Str} {φ : List PV → M PV} {p : Pos} (c : COk g ct n W X) (F : FOk g n f ps φ) (hg : Gl X f) (hn : okN f = true) :
    PE X (.Call (.Name f p) [] [] pos) (tE g W fun _ => (M.ret []).bnd fun vs => φ vs) := by
  obtain ⟨fa, fd, hm, hk, hb, hkw, hF⟩ := F.ex
  obtain ⟨n1, _⟩ := Bool.and_eq_true_iff.mp hn
  have n1 : (f == ("__debug__" : Str)) = false := by simpa using n1
  rw [← c.K] at hk hb hF
  rw [← c.mg] at hm hF
  rw [← c.prog, ← c.w, ← c.base] at hF
  refine ⟨fun pins s σ H Q I ⟨io, ρ, st, E, S, h⟩ => ?_⟩
  refine PySem.wpAny_Call_Name_kw (ld_glob I hg hm ?_ n1)
  exact PySem.W.callWith_K0 I.kIn hk (runG (us := []) hF (c.room.mono (Nat.le_add_right _ _)) c.gd hb c.tk I .nil ⟨io, st, [], S, .nil, Ok.toF h⟩)
theorem Reps.perm {g : G} {io : Io} {H : Hp} : ∀ {pm : List Nat} {vs : List PV} {xs : List V}, Reps g io H vs xs → Reps g io H (permV pm vs) (permV pm xs)
  | [], _, _, _ => .nil
  | i :: pm, vs, xs, r => by
    have ih := Reps.perm (pm := pm) r
    unfold permV at ih ⊢
    rw [List.filterMap_cons, List.filterMap_cons]
    cases e : vs[i]? with
    | none =>
      have : xs[i]? = none := by rw [List.getElem?_eq_none_iff] at e ⊢; rw [← r.length]; exact e
      rw [this]; exact ih
    | some v =>
      obtain ⟨x, h1, h2⟩ := r.get e
      rw [h1]
      exact .cons h2 ih
theorem k_nil : PK X [] (tA g W fun _ => M.ret []) := ⟨fun pos pins s σ H Q I ⟨io, ρ, st, E, S, h⟩ => pk_nil.run pos pins s σ H Q I (h.ret S [] .nil)⟩
theorem k_cons {e : Expr} {es : List Keyword} {nm : Option Str} {kp : Pos} {me : Env → M (List PV)} (ha : PE X e (tE g W ma)) (hr : PK X es (tA g W me)) :
    PK X (⟨nm, e, kp⟩ :: es) (tA g W fun ρ => (ma ρ).bnd fun v => (me ρ).bnd fun vs => M.ret (v :: vs)) := by
  refine ⟨fun pos pins s σ H Q I ⟨io, ρ, st, E, S, h⟩ => (pk_cons ha hr).run pos pins s σ H Q I ?_⟩
  refine tE_run E S h.bnd fun io1 H1 s1 x xv q1 E1 S1 h1 r1 => ?_
  refine tA_run E1 S1 h1.bnd fun io2 H2 s2 y yv q2 E2 S2 h2 r2 => ?_
  exact h2.ret S2 _ (.cons (r1.grow q2 S1.sto) r2)
theorem kw_all {pos : Pos} {env : PySem.Env} : ∀ {ks : List Str} {kws : List Keyword}, kws.map (·.1) = ks.map some → (backToKw pos (keywordEach kws env)).all (·.1.isSome) = true ∧ (backToKw pos (keywordEach kws env)).filterMap (·.1) = ks ∧ (backToKw pos (keywordEach kws env)).any (·.1.isNone) = false
  | [], [], _ => ⟨rfl, rfl, rfl⟩
  | k :: ks, ⟨nm, x, p⟩ :: kws, h => by
    obtain ⟨h1, h2⟩ := List.cons.inj (show nm :: kws.map (·.1) = some k :: ks.map some from h)
    subst h1
    obtain ⟨a, b, c⟩ := kw_all (pos := pos) (env := env) h2
    refine ⟨?_, ?_, ?_⟩
    · show (true && (backToKw pos (keywordEach kws env)).all (·.1.isSome)) = true
      rw [a]; rfl
    · show k :: (backToKw pos (keywordEach kws env)).filterMap (·.1) = k :: ks
      rw [b]
    · show (false || (backToKw pos (keywordEach kws env)).any (·.1.isNone)) = false
      rw [c]; rfl
  | [], _ :: _, h => by cases h
  | _ :: _, [], h => by cases h
theorem runGK {k : Nat} {fa : Addr} {fd : FuncData} {ps ks : List Str} {pm : List Nat} {sp : Sp} {pins : List (Addr × Obj)} {σ : L2.St} {H : Hp} {s : Shared} {Q : VK} {us : List Value} {vs : List V} (F : FnG X.prog X.w X.K X.mg X.base k fa fd ps sp) (hr : Room k X.A) (hg : X.A.guards = some []) (hb : KBn X.K fd ps 0 ks (fun _ ws => permV pm ws) fun _ zs => permV pm zs) (tk : Takes X W) (hn : vs.length = ks.length)
    (I : L2.Inv X pins σ H s) (r : Vals vs us) (h : sp (permV pm vs) H Q (WE W σ)) : wpAny (model X.prog X.w) X.A (call (.ref fa) ([] ++ []) (ks.zip us)) (EP X pins σ Q) X.xe s := by
  have b := hb.to s [] us I.kIn rfl (by rw [← r.length]; exact hn)
  refine wpAny_call (codeAny_mono (F.run X.A X.stack s H ⟨[], ks.zip us⟩ (permV pm us) (permV pm vs) Q _ hr hg I.env0 b (hb.rel .nil r) h) fun q s' hq => ?_)
  cases q with
  | error e => exact passAt tk σ pins H s e s' I hq
  | ok fl =>
    cases fl with
    | ret u => exact I.after hq
    | next => exact hq.elim
    | brk => exact hq.elim
    | cont => exact hq.elim
theorem s_callk {f : Str} {ps ks : List Str} {pm : List Nat} {φ : List PV → M PV} {kws : List Keyword} {me : Env → M (List PV)} {p : Pos} (c : COk g ct n W X) (F : FOk g n f ps φ) (hg : Gl X f) (hn : okN f = true) (hkb : kwB ps ks pm = true) (hks : kws.map (·.1) = ks.map some) (he : PK X kws (tA g W me))
    (hml : ∀ ρ s vs s', me ρ s = .ok vs s' → vs.length = ks.length) :
    PE X (.Call (.Name f p) [] kws pos) (tE g W fun ρ => (me ρ).bnd fun vs => φ (permV pm vs)) := by
  obtain ⟨fa, fd, hm, hk, hb, hkw, hF⟩ := F.ex
  have hb2 := hkw ks pm hkb
  obtain ⟨n1, _⟩ := Bool.and_eq_true_iff.mp hn
  have n1 : (f == ("__debug__" : Str)) = false := by simpa using n1
  rw [← c.K] at hk hb2 hF
  rw [← c.mg] at hm hF
  rw [← c.prog, ← c.w, ← c.base] at hF
  obtain ⟨k1, k2, k3⟩ := kw_all (pos := pos) (env := X.env) hks
  refine ⟨fun pins s σ H Q I ⟨io, ρ, st, E, S, h⟩ => ?_⟩
  have h' : tA g W me σ H fun vs H1 => vs.length = ks.length ∧ spF g φ (permV pm vs) H1 Q (WE W σ) := by
    refine ⟨io, ρ, st, E, S, ?_⟩
    have hm2 := hml ρ st
    have h1 := Ok.bnd (m := me ρ) (f := fun vs => φ (permV pm vs)) h
    cases em : me ρ st with
    | stuck => rw [em] at h1; exact h1.elim
    | exc x s1 => rw [em] at h1; exact h1
    | ok vs s1 =>
      rw [em] at h1
      intro io1 H1 gr S1 xs r1
      exact ⟨by rw [← r1.length]; exact hm2 _ _ em, io1, s1, permV pm vs, S1, r1.perm, (h1 io1 H1 gr S1).toF⟩
  refine PySem.wpAny_Call_Name_kw (ld_glob I hg hm ?_ n1)
  refine PySem.W.callWith_KW0 (h₀ := X.base) I.ok.mod.kin hk k1 ?_ (by show (false || _) = false; rw [k3]; rfl)
  refine thn (he.run pos pins s σ H _ I h') fun us s1 ⟨vs, H1, I1, r, l, q⟩ => ⟨I1.kIn, ?_⟩
  rw [k2]
  exact runGK hF (c.room.mono (Nat.le_add_right _ _)) c.gd hb2 c.tk l I1 r q
theorem blt_none {gi : List (Str × Int)} (G' : GOk g gi) (c : COk g ct n W X) {x : Str} (h : x ∈ bnames) : X.mg x = none := by rw [c.mg]; exact G'.blt x h
theorem s_bi {gi : List (Str × Int)} {k : Bi} {es : List Expr} {me : Env → M (List PV)} {p : Pos} (c : COk g ct n W X) (G' : GOk g gi) (hg : Gl X (biN k)) (hst : nostar es = true) (hne : es ≠ []) (he : PA X es (tA g W me)) :
    PE X (.Call (.Name (biN k) p) es [] pos) (tE g W fun ρ => (me ρ).bnd fun vs => M.lift (biF k vs)) := by
  have hm : X.mg (biN k) = none := blt_none G' c (by cases k <;> decide)
  have fin : ∀ {σ : St} {H : Hp} {Q : VK}, tE g W (fun ρ => (me ρ).bnd fun vs => M.lift (biF k vs)) σ H Q → tCB (rC g (biF k)) (tA g W me) σ H Q := fun {σ H Q} ⟨io, ρ, s, E, S, h⟩ => by
    refine tA_run E S h.bnd fun io1 H1 s1 x xv q1 E1 S1 h1 r1 => ?_
    obtain ⟨v, hv, hP⟩ := lift_ok h1
    exact ⟨io1, s1, x, v, S1, r1, hv, fun io' H' z q S' rz => hP io' H' q S' z rz⟩
  cases es with
  | nil => exact absurd rfl hne
  | cons e es =>
    obtain ⟨s1, s2⟩ := Bool.and_eq_true_iff.mp (show (!isStar e && es.all fun e => !isStar e) = true from hst)
    have s1 : isStar e = false := by simpa using s1
    have hR := callR (g := g) c.K c.calm c.gd (by have := units_of c; omega) k
    have hv := biBoot k
    refine PE.wk ?_ fun σ H Q h => fin h
    cases k with
    | len => exact pe_callB hR hg hm hv he (by decide) (by decide) (star_cons s1) (star_any s2)
    | all => exact pe_callB hR hg hm hv he (by decide) (by decide) (star_cons s1) (star_any s2)
    | any => exact pe_callB hR hg hm hv he (by decide) (by decide) (star_cons s1) (star_any s2)
    | abs => exact pe_callB hR hg hm hv he (by decide) (by decide) (star_cons s1) (star_any s2)
    | tuple => exact pe_callTy hR hg hm hv he (by decide) (by decide) (star_cons s1) (star_any s2)
    | list => exact pe_callTy hR hg hm hv he (by decide) (by decide) (star_cons s1) (star_any s2)
    | int => exact pe_callTy hR hg hm hv he (by decide) (by decide) (star_cons s1) (star_any s2)
    | max2 => exact pe_callB hR hg hm hv he (by decide) (by decide) (star_cons s1) (star_any s2)
    | min2 => exact pe_callB hR hg hm hv he (by decide) (by decide) (star_cons s1) (star_any s2)
    | sorted => exact pe_callB hR hg hm hv he (by decide) (by decide) (star_cons s1) (star_any s2)
    | max1 => exact pe_callB hR hg hm hv he (by decide) (by decide) (star_cons s1) (star_any s2)
    | min1 => exact pe_callB hR hg hm hv he (by decide) (by decide) (star_cons s1) (star_any s2)
    | sum => exact pe_callB hR hg hm hv he (by decide) (by decide) (star_cons s1) (star_any s2)
    | repr => exact pe_callB hR hg hm hv he (by decide) (by decide) (star_cons s1) (star_any s2)
end
end Mini

set_option Elab.async false
set_option linter.all false
set_option maxRecDepth 100000
/-! MiniJ5: lambdas and what they raise, as expressions of the evaluator. -/
namespace Mini
open PySem L2
theorem lamB_ok {ct : Ct} {k : Nat} {x b : Expr} {sc : Scope} (h : lamB ct k x = some (b, sc)) : (∃ p, x = .Lambda noArgs b sc p) ∧ ct.lams[k]? = some (b, sc) ∧ LamX.lamSB ct.sc sc = true := by
  unfold lamB at h
  split at h
  · rename_i ps b1 sc1 hv
    obtain ⟨p, rfl⟩ := vLam_ok hv
    split at h
    · rename_i b2 sc2 hl
      split at h
      · rename_i hc
        obtain ⟨h1, h2⟩ := Bool.and_eq_true_iff.mp hc
        obtain ⟨h3, h4⟩ := Bool.and_eq_true_iff.mp h2
        obtain ⟨h5, h6⟩ := Bool.and_eq_true_iff.mp h4
        cases h
        have e1 := noArgsB_ok h1
        have e2 := eqE_ok _ _ h3
        have e3 := of_decide_eq_true h5
        subst e1 e2 e3
        exact ⟨⟨p, rfl⟩, hl, h6⟩
      · cases h
    · cases h
  · cases h
section
variable {g : G} {ct : Ct} {n : Nat} {W : WX} {X : Cx} {pos : Pos}
theorem Ok.mono {W W' : WX} {α : Type} {P P' : Io → Hp → Store → α → Prop} {σ : St} {io : Io} {H : Hp} {r : R α} (h : Ok g W σ io H P r) (hW : ∀ c d H, W c d σ H → W' c d σ H) (hP : ∀ io' H' s a, P io' H' s a → P' io' H' s a) : Ok g W' σ io H P' r := by
  cases r with
  | ok a s => exact fun io' H' q S => hP _ _ _ _ (h io' H' q S)
  | exc x s => exact fun io' H' c d q S z => hW _ _ _ (h io' H' c d q S z)
  | stuck => exact h
theorem s_lamk {k : Nat} {x b : Expr} {sc : Scope} (c : COk g ct n W X) (h : lamB ct k x = some (b, sc)) : PE X x (tE g W fun _ => M.ret (.clo k)) := by
  obtain ⟨⟨p, rfl⟩, hl, hs⟩ := lamB_ok h
  have hne : ct.lams ≠ [] := fun e => by rw [e] at hl; cases hl
  have C := c.lam hne
  obtain ⟨cc, P, t1, t2, t3, t4⟩ := C.tab
  have L : LamX.LamS X.env.scope sc := by rw [c.sc]; exact LamX.lamS_by hs
  refine ⟨fun pins s σ H Q I h => ?_⟩
  exact (e_lamk (g := g) (W := W) t1 t2 t3 t4 rfl (L.has I.ok) (C.has k b sc hl)).run pins s σ H Q I h
/-- what is made of a lambda that is called -/
def cauV (cs : List Str) (ev : Nat → Env → M PV) (v : PV) (ρ : Env) : M PV := match v with
  | .clo k => caughtM cs (ev k ρ)
  | _ => M.stuck
theorem s_cau {a : Expr} {ma : Env → M PV} {cs : List Str} {ev : Nat → Env → M PV} {p : Pos} (c : COk g ct n W X) (hl : ct.lams ≠ []) (hg : Gl X "_law_caught") (hs : isStar a = false) (ha : PE X a (tE g W ma)) (hcs : ∀ x ∈ cs, x ∈ ct.cs)
    (hev : ∀ k b sc, ct.lams[k]? = some (b, sc) → (∀ ρ s, ev k ρ s = .stuck) ∨ (LamX.LamS ct.sc sc ∧ ∀ (W' : WX) (X' : Cx), COk g (ct.lamc sc) n W' X' → PE X' b (tE g W' (ev k)))) :
    PE X (.Call (.Name "_law_caught" p) [a] [] pos) (tE g W fun ρ => (ma ρ).bnd fun v => cauV cs ev v ρ) := by
  have C := c.lam hl
  obtain ⟨gA, C0, fd, PP, sg, pg, hm, hk, CS, FD, hb, hm0, hex⟩ := C.cau
  have hm' : X.mg "_law_caught" = some (.ref gA) := by rw [c.mg]; exact hm
  have hm0' : X.mg "SignError" = some (.ref C0) := by rw [c.mg]; exact hm0
  have hK := c.K
  refine ⟨fun pins s σ H Q I ⟨io, ρ, st, E, S, h⟩ => ?_⟩
  have h' : tE g W ma σ H fun x H1 => ∃ io1 s1 v, ERp g io1 H1 ρ σ ∧ SRp g io1 H1 s1 ∧ Rep g io1 H1 v x ∧ Ok g W σ io1 H1 (fun io' H' _ v => ∀ x, Rep g io' H' v x → Q x H') (cauV cs ev v ρ s1) :=
    tE_run E S (Ok.bnd h) fun io1 H1 s1 v xv gr E1 S1 h1 r1 => ⟨io1, s1, v, E1, S1, r1, h1⟩
  refine PySem.wpAny_Call_Name_kw (ld_glob I hg hm' ?_ (by decide))
  refine PySem.W.callWith_K (h₀ := X.base) I.ok.mod.kin (by rw [hK]; exact hk) (thn ((pa_cons ha pa_nil (hs := star_cons hs)).run pos pins s σ H (fun vs H1 => ∃ x, vs = [x] ∧ ∃ io1 s1 v, ERp g io1 H1 ρ σ ∧ SRp g io1 H1 s1 ∧ Rep g io1 H1 v x ∧ Ok g W σ io1 H1 (fun io' H' _ v => ∀ x, Rep g io' H' v x → Q x H') (cauV cs ev v ρ s1)) I ?_) fun us s1 ⟨vs, H1, I1, r, q⟩ => ⟨I1.kIn, ?_⟩) (star_cons hs) (star_any (by rfl))
  · obtain ⟨io0, ρ0, st0, E0, S0, h0⟩ := h'
    exact ⟨io0, ρ0, st0, E0, S0, h0.mono (fun _ _ _ z => z) fun io' H' s' v z x r => ⟨x, rfl, z x r⟩⟩
  · obtain ⟨x, ev1, io1, s2, v, E1, S1, r1, h1⟩ := q
    subst ev1
    cases v with
    | clo k =>
      cases r1 with
      | clo nin lk hf hc =>
        rename_i d f c'
        obtain ⟨b, sc, hb1, ed⟩ := C.lam k d lk
        subst ed
        cases r with
        | cons rx rn =>
          cases rn
          cases rx
          rcases hev k b sc hb1 with hst | ⟨L, hbody⟩
          · have h1 : Ok g W σ io1 H1 _ (caughtM cs (ev k ρ) s2) := h1
            unfold caughtM at h1
            rw [hst] at h1
            exact h1.elim
          · refine cau_run (P := PP) (k := n) (tb := fun E => tE g (fun cls d _ H => E cls d H) (ev k)) CS (by rw [hK]; exact FD) (by rw [hK]; exact hb) hm0' I1 (by rw [c.sc]; exact L) (fun _ _ => rfl) (c.room.mono (by have := C.room; omega)) (fun A E outer s2 H2 hgd hr => ?_) (fun E E' σ H Q Q' hE hQ ⟨io, ρ, s, e1, e2, e3⟩ => ⟨io, ρ, s, e1, e2, e3.mono (fun c d H z => hE c d H z) fun io' H' s a z x r => hQ _ _ (z x r)⟩) c.gd hf hc ?_
            · refine hbody _ _ { prog := c.prog, w := c.w, K := c.K, mg := c.mg, base := c.base, N := c.N, sc := rfl, nd := c.nd, calm := rfl, room := hr, gd := ?_, fn := fun x hx => (nomatch hx), tk := takes_of rfl rfl rfl rfl, lam := fun h => absurd rfl h, er := c.er }
              exact deeper_guards (hgd.trans c.gd)
            · refine ⟨io1, ρ, s2, E1, S1, ?_⟩
              have h1 : Ok g W σ io1 H1 _ (caughtM cs (ev k ρ) s2) := h1
              unfold caughtM at h1
              cases e : ev k ρ s2 with
              | ok v s3 =>
                rw [e] at h1
                exact fun io' H' gr S' x _ => h1 io' H' gr S' _ .non
              | stuck => rw [e] at h1; exact h1.elim
              | exc x s3 =>
                rw [e] at h1
                cases x with
                | exn cn ns vs =>
                  simp only at h1
                  by_cases hcn : cn ∈ cs
                  · rw [if_pos (decide_eq_true hcn)] at h1
                    intro io' H' cls dd gr S' xr
                    have fin : ∀ (C1 : Addr) (o : Option Addr), g.mg cn = some (.ref C1) → (∀ a, H' a = none → Rep g io' (upd H' a (ExO (.ref C1) o a)) (.exn cn ns vs) (.ref a)) → cauE X.K C0 Q (.ref C1) o H' := fun C1 o hC1 hrep => by
                      refine ⟨by rw [hK]; exact hex cn (hcs cn hcn) C1 hC1, fun a na => ?_⟩
                      exact h1 io' _ (gr.trans (Gr.new na)) (S'.new na) _ (hrep a na)
                    cases xr with
                    | own0 hC1 => exact fin _ _ hC1 fun a na => .exn0 (S'.fresh na) upd_same hC1
                    | own n1 hdx hlen hC1 hps =>
                      exact fin _ _ hC1 fun a na => .exn (S'.fresh na) n1 upd_same (by rw [upd_ne (ne_of_none hdx na)]; exact hdx) hlen hC1 (hps.grow (Gr.new na) S'.sto)
                  · rw [if_neg (by simpa using hcn)] at h1
                    exact h1.elim
                | _ => exact h1.elim
    | _ => exact h1.elim
end
end Mini

set_option Elab.async false
set_option linter.all false
set_option maxRecDepth 100000
/-! Mini10: methods, subscripts, walks, targets, comprehensions. -/
namespace Mini
open PySem L2
theorem Mv.refl (g : G) (io : Io) (H : Hp) : Mv g io H io H := ⟨fun _ _ n h _ => ⟨n, h⟩, fun _ _ h => h, fun _ _ h => h, fun _ _ h => h⟩
theorem Mv.trans {g : G} {io io1 io2 : Io} {H H1 H2 : Hp} (a : Mv g io H io1 H1) (b : Mv g io1 H1 io2 H2) : Mv g io H io2 H2 :=
  ⟨fun c o n h nt => let ⟨n1, h1⟩ := a.ext c o n h nt; b.ext c o n1 h1 nt, fun n c h => b.at_ n c (a.at_ n c h), fun c xs h => b.tup c xs (a.tup c xs h), fun c q h => b.code c q (a.code c q h)⟩
section
variable {g : G} {ct : Ct} {n : Nat} {W : WX} {X : Cx} {a b d : Expr} {ma mb md : Env → M PV} {pos : Pos}
theorem mtSlot (m : Mt) : PySem.Slot "list" (mtN m) (mtId m) := by
  cases m with
  | append => exact PySem.F.slot_list_append
  | pop => exact PySem.F.slot_list_pop
  | popat => exact PySem.F.slot_list_pop
theorem mtTy (m : Mt) : typeOf (.builtin (mtId m)) = pure (.type "method_descriptor") := by
  cases m with
  | append => exact PySem.F.type_list_append
  | pop => exact PySem.F.type_list_pop
  | popat => exact PySem.F.type_list_pop
theorem attr_base {o : Expr} {nm : Str} {env : PySem.Env} (h : vCall o = none) : attributeBase o nm env (eval o env) = eval o env := by
  cases o <;> first | rfl | (simp [vCall] at h)
theorem s_meth {m : Mt} {o : Expr} {mo : Env → M PV} {es : List Expr} {me : Env → M (List PV)} {apos : Pos} (c : COk g ct n W X) (ho : PE X o (tE g W mo)) (hv : vCall o = none) (hne : es ≠ []) (hst : nostar es = true) (hl : es.length < 30) (hp : (apos.endLine == pos.line) = true) (he : PA X es (tA g W me)) :
    PE X (.Call (.Attribute o (mtN m) apos) es [] pos) (tE g W fun ρ => (mo ρ).bnd fun x => (M.lift fun s => lstOf s x).bnd fun _ => (me ρ).bnd fun vs => M.liftS (meth m x vs)) := by
  have lead : ∀ {σ : St} {H : Hp} {Q : VK}, tE g W (fun ρ => (mo ρ).bnd fun x => (M.lift fun s => lstOf s x).bnd fun _ => (me ρ).bnd fun vs => M.liftS (meth m x vs)) σ H Q → tBM X.K "list" (rM g m) (tE g W mo) (tA g W me) σ H Q := fun {σ H Q} ⟨io, ρ, s, E, S, h⟩ => by
    refine tE_run E S h.bnd fun io1 H1 s1 x xv q1 E1 S1 h1 r1 => ?_
    obtain ⟨xs, hx, hP⟩ := lift_ok h1.bnd
    obtain ⟨a, ys, rfl, hH, _⟩ := rep_lst S1 r1 hx
    refine ⟨.inl ⟨rfl, ys, SqL.of hH⟩, ?_⟩
    refine tA_run E1 S1 (hP io1 H1 (Gr.refl _ _) S1).bnd fun io2 H2 s2 vs vv q2 E2 S2 h2 r2 => ?_
    obtain ⟨v, s', hv, hP'⟩ := liftS_ok h2
    exact ⟨io2, s2, x, vs, v, s', S2, r1.grow q2 S1.sto, r2, hv, fun io' H' z q S' rz => hP' io' H' q S' z rz⟩
  cases es with
  | nil => exact absurd rfl hne
  | cons e es =>
    obtain ⟨s1, s2⟩ := Bool.and_eq_true_iff.mp (show (!isStar e && es.all fun e => !isStar e) = true from hst)
    refine PE.wk (pe_bm PySem.F.plainAttrs_list (mtSlot m) (mtTy m) (mtR (g := g) m) ho he (attr_base hv) ?_ hp (star_cons (by simpa using s1)) (star_any s2)) fun σ H Q h => lead h
    rw [Bool.and_eq_true_iff, Bool.and_eq_true_iff]
    exact ⟨⟨star_all hst, rfl⟩, decide_eq_true (by simpa using hl)⟩
theorem s_meth0 {m : Mt} {o : Expr} {mo : Env → M PV} {apos : Pos} (c : COk g ct n W X) (ho : PE X o (tE g W mo)) (hv : vCall o = none) (hp : (apos.endLine == pos.line) = true) :
    PE X (.Call (.Attribute o (mtN m) apos) [] [] pos) (tE g W fun ρ => (mo ρ).bnd fun x => (M.lift fun s => lstOf s x).bnd fun _ => (M.ret []).bnd fun vs => M.liftS (meth m x vs)) := by
  refine PE.wk (pe_bm0 PySem.F.plainAttrs_list (mtSlot m) (mtTy m) (mtR (g := g) m) ho (attr_base hv) hp) fun σ H Q ⟨io, ρ, s, E, S, h⟩ => ?_
  refine tE_run E S h.bnd fun io1 H1 s1 x xv q1 E1 S1 h1 r1 => ?_
  obtain ⟨xs, hx, hP⟩ := lift_ok h1.bnd
  obtain ⟨a, ys, rfl, hH, _⟩ := rep_lst S1 r1 hx
  refine ⟨.inl ⟨rfl, ys, SqL.of hH⟩, ?_⟩
  have h2 : Ok g W σ io1 H1 (fun io' H' _ v => ∀ x, Rep g io' H' v x → Q x H') (M.liftS (meth m x []) s1) := hP io1 H1 (Gr.refl _ _) S1
  obtain ⟨v, s', hv, hP'⟩ := liftS_ok h2
  exact ⟨io1, s1, x, [], v, s', S1, r1, .nil, hv, fun io' H' z q S' rz => hP' io' H' q S' z rz⟩
theorem s_cnt {o q : Expr} {mo mq : Env → M PV} {apos : Pos} (c : COk g ct n W X) (ho : PE X o (tE g W mo)) (hv : vCall o = none) (hst : isStar q = false) (hp : (apos.endLine == pos.line) = true) (hq : PE X q (tE g W mq)) :
    PE X (.Call (.Attribute o "count" apos) [q] [] pos) (tE g W fun ρ => (mo ρ).bnd fun x => (M.lift fun s => lstOf s x).bnd fun _ => (mq ρ).bnd fun y => M.lift (cntF x y)) := by
  refine PE.wk (pe_bm (r := rCntI X.K) PySem.F.plainAttrs_list PySem.F.slot_list_count (by first | exact PySem.F.type_list_count | kernel_rfl) mt_lcount ho (a_one hst hq) (attr_base hv) ?_ hp (star_cons hst) rfl) fun σ H Q ⟨io, ρ, s, E, S, h⟩ => ?_
  · rw [Bool.and_eq_true_iff, Bool.and_eq_true_iff]
    exact ⟨⟨star_all (es := [q]) (by show (!isStar q && true) = true; rw [hst]; rfl), rfl⟩, rfl⟩
  · refine tE_run E S h.bnd fun io1 H1 s1 x xv q1 E1 S1 h1 r1 => ?_
    obtain ⟨xs, hx, hP⟩ := lift_ok h1.bnd
    obtain ⟨a, ys, rfl, hH, _⟩ := rep_lst S1 r1 hx
    refine ⟨.inl ⟨rfl, ys, SqL.of hH⟩, ?_⟩
    refine tE_run E1 S1 (hP io1 H1 (Gr.refl _ _) S1).bnd fun io2 H2 s2 y yv q2 E2 S2 h2 r2 => ?_
    obtain ⟨v, hv, hP'⟩ := lift_ok h2
    obtain ⟨k, e1, hv⟩ := Option.bind_eq_some_iff.mp hv
    obtain ⟨ns, e2, rfl⟩ := Option.map_eq_some_iff.mp hv
    obtain ⟨ps, e3, e4⟩ := Option.bind_eq_some_iff.mp e2
    have ek : y = .int k := by cases y <;> simp_all [intV]
    subst ek
    cases r2
    obtain ⟨a2, ys2, e5, hH2, rq⟩ := rep_lst S2 (r1.grow q2 S1.sto) e3
    cases e5
    have ey := intsOf_ok rq e4
    subst ey
    exact ⟨a, ns, k, rfl, rfl, SqL.of hH2, hP' io2 H2 (Gr.refl _ _) S2 _ (.int _)⟩
theorem slice_plain {b : Expr} (h : vSlice b = none) : PlainIx b := by
  intro o i
  cases b <;> first | rfl | (simp [vSlice] at h)
theorem s_sub (c : COk g ct n W X) (hs : vSlice b = none) (ha : PE X a (tE g W ma)) (hb : PE X b (tE g W mb)) : PE X (.Subscript a b pos) (tE g W fun ρ => (ma ρ).bnd fun x => (mb ρ).bnd fun y => M.lift (subG x y)) := by
  refine PE.wk (pe_ix (subR (g := g) c.K (by have := units_of c; omega)) ha hb (slice_plain hs)) fun σ H Q ⟨io, ρ, s, E, S, h⟩ => ?_
  refine tE_run E S h.bnd fun io1 H1 s1 x xv q1 E1 S1 h1 r1 => ?_
  refine tE_run E1 S1 h1.bnd fun io2 H2 s2 y yv q2 E2 S2 h2 r2 => ?_
  obtain ⟨v, hv, hP⟩ := lift_ok h2
  exact ⟨io2, s2, x, y, v, S2, r1.grow q2 S1.sto, r2, hv, fun io' H' z q S' rz => hP io' H' q S' z rz⟩
theorem o_none : PO X none (tO g W fun _ => M.ret none) := PO.wk po_none fun σ H Q ⟨io, ρ, s, E, S, h⟩ => h.ret S
theorem intV_ok {v : PV} {i : Int} (h : intV v = some i) : v = .int i := by cases v <;> simp_all [intV]
theorem o_some (ha : PE X a (tE g W ma)) : PO X (some a) (tO g W fun ρ => (ma ρ).bnd fun v => (M.opt (intV v)).bnd fun i => M.ret (some i)) := by
  refine PO.wk (po_some ha) fun σ H Q ⟨io, ρ, s, E, S, h⟩ => ?_
  refine tE_run E S h.bnd fun io1 H1 s1 x xv q1 E1 S1 h1 r1 => ?_
  obtain ⟨i, hi, hP⟩ := opt_ok h1.bnd
  have e := intV_ok hi
  subst e
  cases r1
  exact ⟨i, rfl, (hP io1 H1 (Gr.refl _ _) S1).ret S1⟩
theorem s_slc {lo hi : Option Expr} {ml mh : Env → M (Option Int)} {p2 : Pos} (c : COk g ct n W X) (ha : PE X a (tE g W ma)) (hl : PO X lo (tO g W ml)) (hh : PO X hi (tO g W mh)) :
    PE X (.Subscript a (.Slice lo hi none p2) pos) (tE g W fun ρ => (ma ρ).bnd fun x => (ml ρ).bnd fun l => (mh ρ).bnd fun h => M.lift (slcG x l h)) := by
  refine PE.wk (pe_slice (slcR (g := g) c.K) ha hl hh) fun σ H Q ⟨io, ρ, s, E, S, h⟩ => ?_
  refine tE_run E S h.bnd fun io1 H1 s1 x xv q1 E1 S1 h1 r1 => ?_
  refine tO_run E1 S1 h1.bnd fun io2 H2 s2 l q2 E2 S2 h2 => ?_
  refine tO_run E2 S2 h2.bnd fun io3 H3 s3 u q3 E3 S3 h3 => ?_
  obtain ⟨v, hv, hP⟩ := lift_ok h3
  exact ⟨io3, s3, x, v, S3, (r1.grow q2 S1.sto).grow q3 S2.sto, hv, fun io' H' z q S' rz => hP io' H' q S' z rz⟩

/-! ### walks -/
theorem i_val {tg : Expr} (c : COk g ct n W X) (ha : PE X a (tE g W ma)) : PI X tg a (tI g W fun ρ => (ma ρ).bnd fun v => M.lift fun s => (seqOf s v).map fun xs => (xs, watch s v)) := by
  refine PI.wk (pi_seq ha) fun σ H R ⟨io, ρ, s, E, S, h⟩ => ?_
  refine tE_run E S h.bnd fun io1 H1 s1 x xv q1 E1 S1 h1 r1 => ?_
  obtain ⟨w, hw, hP⟩ := lift_ok h1
  obtain ⟨xs, e, rfl⟩ := Option.map_eq_some_iff.mp hw
  obtain ⟨p, k, rfl, hl⟩ := seq_later S1 r1 e
  have fin := hP io1 H1 (Gr.refl _ _) S1
  obtain ⟨ys, hs, _⟩ := hl io1 H1 s1 (Mv.refl _ _ _) S1 (stays_watch e)
  refine ⟨p, rfl, ?_⟩
  rw [c.K]
  cases k with
  | false => exact .inl ⟨⟨ys, hs⟩, fin _ (walkM_list hl)⟩
  | true => exact .inr ⟨⟨ys, hs⟩, fin _ (walkM_tup hl)⟩
theorem rngOk_ok {i j : Int} (h : rngOk i j = true) : -(2 ^ 62) ≤ i ∧ i < 2 ^ 62 ∧ -(2 ^ 62) ≤ j ∧ j < 2 ^ 62 := of_decide_eq_true h
theorem i_rng1 {gi : List (Str × Int)} {tg : Expr} {p : Pos} (c : COk g ct n W X) (G' : GOk g gi) (hg : Gl X "range") (hs : isStar a = false) (ha : PE X a (tE g W ma)) :
    PI X tg (.Call (.Name "range" p) [a] [] pos) (tI g W fun ρ => (ma ρ).bnd fun y => (M.opt (intV y)).bnd fun j => if rngOk 0 j then M.ret (rngV 0 j, []) else M.stuck) := by
  refine PI.wk (pi_range1 hg (blt_none G' c (by decide)) (a_one hs ha) (star_cons hs)) fun σ H R ⟨io, ρ, s, E, S, h⟩ => ?_
  refine tE_run E S h.bnd fun io1 H1 s1 x xv q1 E1 S1 h1 r1 => ?_
  obtain ⟨j, hj, hP⟩ := opt_ok h1.bnd
  have e := intV_ok hj
  subst e
  cases r1
  have h2 := hP io1 H1 (Gr.refl _ _) S1
  by_cases hr : rngOk 0 j = true
  · rw [if_pos hr] at h2
    obtain ⟨_, _, k1, k2⟩ := rngOk_ok hr
    refine ⟨j, rfl, k1, k2, h2.ret S1 _ ?_⟩
    have e : (j - 0).toNat = j.toNat := by rw [Int.sub_zero]
    rw [← e]
    exact walkM_rng
  · rw [if_neg hr] at h2
    exact h2.elim
theorem i_rng {gi : List (Str × Int)} {tg : Expr} {p : Pos} (c : COk g ct n W X) (G' : GOk g gi) (hg : Gl X "range") (hs : isStar a = false) (hs2 : isStar b = false) (ha : PE X a (tE g W ma)) (hb : PE X b (tE g W mb)) :
    PI X tg (.Call (.Name "range" p) [a, b] [] pos) (tI g W fun ρ => (ma ρ).bnd fun x => (mb ρ).bnd fun y => (M.opt (intV x)).bnd fun i => (M.opt (intV y)).bnd fun j => if rngOk i j then M.ret (rngV i j, []) else M.stuck) := by
  refine PI.wk (pi_range2 hg (blt_none G' c (by decide)) (a_two hs hs2 ha hb) (by rw [star_cons hs, star_cons hs2]; rfl) (star_cons hs2)) fun σ H R ⟨io, ρ, s, E, S, h⟩ => ?_
  refine tE_run E S h.bnd fun io1 H1 s1 x xv q1 E1 S1 h1 r1 => ?_
  refine tE_run E1 S1 h1.bnd fun io2 H2 s2 y yv q2 E2 S2 h2 r2 => ?_
  obtain ⟨i, hi, hP⟩ := opt_ok h2.bnd
  have e := intV_ok hi
  subst e
  obtain ⟨j, hj, hP'⟩ := opt_ok (hP io2 H2 (Gr.refl _ _) S2).bnd
  have e := intV_ok hj
  subst e
  cases r1
  cases r2
  have h3 := hP' io2 H2 (Gr.refl _ _) S2
  by_cases hr : rngOk i j = true
  · rw [if_pos hr] at h3
    exact ⟨i, j, rfl, rngOk_ok hr, h3.ret S2 _ walkM_rng⟩
  · rw [if_neg hr] at h3
    exact h3.elim
theorem i_zip {gi : List (Str × Int)} {p tpos : Pos} {elts : List Expr} {kk : Nat} (c : COk g ct n W X) (G' : GOk g gi) (hg : Gl X "zip") (hs : isStar a = false) (hs2 : isStar b = false) (ha : PE X a (tE g W ma)) (hb : PE X b (tE g W mb)) :
    PI X (.Tuple elts kk tpos) (.Call (.Name "zip" p) [a, b] [] pos) (tI g W fun ρ => (ma ρ).bnd fun x => (mb ρ).bnd fun y => M.lift fun s => (seqOf s x).bind fun xs => (seqOf s y).map fun ys => (zipV xs ys, watch s x ++ watch s y)) := by
  refine PI.wk (pi_zipM hg (blt_none G' c (by decide)) (a_two hs hs2 ha hb) (star_cons hs) (by rw [star_cons hs2]; rfl)) fun σ H R ⟨io, ρ, s, E, S, h⟩ => ?_
  refine tE_run E S h.bnd fun io1 H1 s1 x xv q1 E1 S1 h1 r1 => ?_
  refine tE_run E1 S1 h1.bnd fun io2 H2 s2 y yv q2 E2 S2 h2 r2 => ?_
  obtain ⟨w, hw, hP⟩ := lift_ok h2
  obtain ⟨xs, e1, hw⟩ := Option.bind_eq_some_iff.mp hw
  obtain ⟨ys, e2, rfl⟩ := Option.map_eq_some_iff.mp hw
  obtain ⟨p1, k1, rfl, l1⟩ := seq_later S2 (r1.grow q2 S1.sto) e1
  obtain ⟨p2, k2, rfl, l2⟩ := seq_later S2 r2 e2
  obtain ⟨us, hs1, _⟩ := l1 io2 H2 s2 (Mv.refl _ _ _) S2 (stays_watch e1)
  obtain ⟨vs, hs2, _⟩ := l2 io2 H2 s2 (Mv.refl _ _ _) S2 (stays_watch e2)
  exact ⟨k1, k2, p1, p2, us, vs, rfl, by rw [c.K]; exact hs1, by rw [c.K]; exact hs2, by rw [c.K]; exact hP io2 H2 (Gr.refl _ _) S2 _ (walkM_zip l1 l2)⟩
theorem i_enum {gi : List (Str × Int)} {p tpos : Pos} {elts : List Expr} {kk : Nat} (c : COk g ct n W X) (G' : GOk g gi) (hg : Gl X "enumerate") (hs : isStar a = false) (ha : PE X a (tE g W ma)) :
    PI X (.Tuple elts kk tpos) (.Call (.Name "enumerate" p) [a] [] pos) (tI g W fun ρ => (ma ρ).bnd fun x => M.lift fun s => (seqOf s x).map fun xs => (enumV xs, watch s x)) := by
  refine PI.wk (pi_enumM hg (blt_none G' c (by decide)) (a_one hs ha) (star_cons hs)) fun σ H R ⟨io, ρ, s, E, S, h⟩ => ?_
  refine tE_run E S h.bnd fun io1 H1 s1 x xv q1 E1 S1 h1 r1 => ?_
  obtain ⟨w, hw, hP⟩ := lift_ok h1
  obtain ⟨xs, e1, rfl⟩ := Option.map_eq_some_iff.mp hw
  obtain ⟨p1, k1, rfl, l1⟩ := seq_later S1 r1 e1
  obtain ⟨us, hs1, _⟩ := l1 io1 H1 s1 (Mv.refl _ _ _) S1 (stays_watch e1)
  exact ⟨k1, p1, us, rfl, by rw [c.K]; exact hs1, by rw [c.K]; exact hP io1 H1 (Gr.refl _ _) S1 _ (walkM_enum l1)⟩
end
end Mini

set_option Elab.async false
set_option linter.all false
set_option maxRecDepth 100000
/-! MiniZ: dict(zip(a, b)), a and b lists or tuples. -/
namespace Mini
open PySem L2
section
variable {P : Program} {w : World} {A : Around} {E : Value → Shared → Prop} {s : Shared} {c TI TO i1 i2 T : Addr} {f1 f2 : List Addr} {n1 n2 i : Nat} {P1 P2 : Nat → Value → Prop} {S1 S2 : Nat → Heap → Prop} {fl : Bool} {oT : Obj}
/-- the zip's tuple is held by another: a new one is made -/
theorem zipH_item {Q : Value → Shared → Prop} (S : ZipSep2 c TI TO i1 i2 f1 f2) (D1 : Draws P w A i1 f1 n1 P1 S1) (D2 : Draws P w A i2 f2 n2 P2 S2) (hc : IsZipHeld s.heap c TI TO T fl) (hT : s.heap.get? T = some oT) (hTI : IsPair s.heap TI (.ref i1) (.ref i2)) (t1 : S1 i s.heap) (t2 : S2 i s.heap) (l1 : i < n1) (l2 : i < n2)
    (k : ∀ x y h' tk, P1 i x → P2 i y → IsZipHeld h' c TI TO T true → S1 (i + 1) h' → S2 (i + 1) h' → IsPair h' s.heap.objs.size x y → (∀ b o, b ≠ c → b ≠ i1 → b ≠ i2 → s.heap.get? b = some o → h'.get? b = some o) → Q (.ref s.heap.objs.size) { s with heap := h', toks := tk }) :
    wpAny (model P w) A (Builtin.«zip.__next__» ⟨[.ref c], []⟩) (fun fin s' => ∃ v, fin = .done (.ret v) ∧ Q v s') E s := by
  obtain ⟨hp, gs, dr, tk0, os⟩ := s
  show wpAny _ _ (field (.ref c) 2 >>= _) _ _ _
  refine wpAny_bind (wpAny_field hc rfl (x := .bool false) rfl ?_)
  show wpAny _ _ (field (.ref c) 3 >>= _) _ _ _
  refine wpAny_bind (wpAny_field hc rfl (x := .ref TI) rfl (wpAny_bind (wpAny_seqItems hTI rfl ?_)))
  show wpAny _ _ (Builtin.SmallTypes.ownedTupleIsFree (.ref c) >>= _) _ _ _
  refine wpAny_bind (wpAny_tupleHeld_zip hc hT fun g0 hc0 e0 => ?_)
  replace e0 : Heap.SameBut c hp g0 := e0
  simp only [Bool.false_eq_true, if_false]
  refine wpAny_bind ?_
  rw [← Array.forIn_toList]
  simp only [List.forIn_cons, List.forIn_nil]
  refine wpAny_bind (wpAny_bind (wpAny_holding ?_))
  show wpAny _ _ (Builtin.SmallTypes.nextOf (.ref i1) >>= _) _ _ ⟨g0, gs, dr, tk0, os⟩
  refine wpAny_bind (D1.item i _ _ _ l1 (D1.over t1 e0 S.zf1) fun x p1 k1 hx n1' e1 => wpAny_pure (wpAny_pure ?_))
  replace e1 : Heap.SameBut i1 g0 p1 := e1
  refine wpAny_bind (wpAny_bind (wpAny_holding ?_))
  show wpAny _ _ (Builtin.SmallTypes.nextOf (.ref i2) >>= _) _ _ ⟨p1, gs, dr, k1, os⟩
  refine wpAny_bind (D2.item i _ _ _ l2 (D2.over (D2.over t2 e0 S.zf2) e1 S.sep1_2) fun y p2 k2 hy n2' e2 => wpAny_pure (wpAny_pure (wpAny_pure ?_)))
  replace e2 : Heap.SameBut i2 p1 p2 := e2
  show wpAny _ _ (newTuple [x, y] >>= _) _ _ ⟨p2, gs, dr, k2, os⟩
  refine wpAny_bind (wpAny_newTuple ?_)
  have sz : p2.objs.size = hp.objs.size := by rw [e2.1, e1.1, e0.1]
  have up : ∀ b o, b ≠ c → b ≠ i1 → b ≠ i2 → hp.get? b = some o → p2.get? b = some o := fun b o q1 q2 q3 e => e2.extBut _ _ q3 (e1.extBut _ _ q2 (e0.extBut _ _ q1 e))
  have hc2 : IsZipHeld p2 c TI TO T true := e2.extBut _ _ S.zi2 (e1.extBut _ _ S.zi1 hc0)
  have pu : ∀ b o, p2.get? b = some o → (p2.push { cls := .type "tuple", data := .seq #[x, y] }).get? b = some o := fun b o e => Heap.get?_push_of_some _ e
  have new : IsPair (p2.push { cls := .type "tuple", data := .seq #[x, y] }) p2.objs.size x y := Heap.get?_push_size _ rfl
  refine wpAny_pure ⟨_, rfl, ?_⟩
  show Q (.ref p2.objs.size) _
  rw [sz] at new ⊢
  exact k x y _ _ hx hy (pu _ _ hc2) (D1.frame _ _ _ (D1.over n1' e2 S.sep2_1) fun b _ o e => pu b o e) (D2.frame _ _ _ n2' fun b _ o e => pu b o e) new fun b o q1 q2 q3 e => pu b o (up b o q1 q2 q3 e)
theorem zipH_end {Q : Fin → Shared → Prop} (S : ZipSep2 c TI TO i1 i2 f1 f2) (D1 : Draws P w A i1 f1 n1 P1 S1) (D2 : Draws P w A i2 f2 n2 P2 S2) (hc : IsZipHeld s.heap c TI TO T fl) (hT : s.heap.get? T = some oT) (hTI : IsPair s.heap TI (.ref i1) (.ref i2)) (t1 : S1 i s.heap) (t2 : S2 i s.heap) (l1 : i ≤ n1) (l2 : i ≤ n2) (he : i = n1 ∨ i = n2)
    (k : ∀ h' tk e, (∀ b o, b ≠ c → b ≠ i1 → b ≠ i2 → s.heap.get? b = some o → h'.get? b = some o) → (∃ o, h'.get? e = some o ∧ o.cls = .type "StopIteration") → E (.ref e) { s with heap := h', toks := tk }) :
    wpAny (model P w) A (Builtin.«zip.__next__» ⟨[.ref c], []⟩) Q E s := by
  obtain ⟨hp, gs, dr, tk0, os⟩ := s
  show wpAny _ _ (field (.ref c) 2 >>= _) _ _ _
  refine wpAny_bind (wpAny_field hc rfl (x := .bool false) rfl ?_)
  show wpAny _ _ (field (.ref c) 3 >>= _) _ _ _
  refine wpAny_bind (wpAny_field hc rfl (x := .ref TI) rfl (wpAny_bind (wpAny_seqItems hTI rfl ?_)))
  show wpAny _ _ (Builtin.SmallTypes.ownedTupleIsFree (.ref c) >>= _) _ _ _
  refine wpAny_bind (wpAny_tupleHeld_zip hc hT fun g0 hc0 e0 => ?_)
  replace e0 : Heap.SameBut c hp g0 := e0
  simp only [Bool.false_eq_true, if_false]
  refine wpAny_bind ?_
  rw [← Array.forIn_toList]
  simp only [List.forIn_cons, List.forIn_nil]
  refine wpAny_bind (wpAny_bind (wpAny_holding ?_))
  show wpAny _ _ (Builtin.SmallTypes.nextOf (.ref i1) >>= _) _ _ ⟨g0, gs, dr, tk0, os⟩
  by_cases h1 : i < n1
  · refine wpAny_bind (D1.item i _ _ _ h1 (D1.over t1 e0 S.zf1) fun x p1 k1 hx n1' e1 => wpAny_pure (wpAny_pure ?_))
    replace e1 : Heap.SameBut i1 g0 p1 := e1
    refine wpAny_bind (wpAny_bind (wpAny_holding ?_))
    show wpAny _ _ (Builtin.SmallTypes.nextOf (.ref i2) >>= _) _ _ ⟨p1, gs, dr, k1, os⟩
    have q : i = n2 := by omega
    refine wpAny_bind (D2.done ⟨p1, gs, dr, k1, os⟩ _ _ (by rw [← q]; exact D2.over (D2.over t2 e0 S.zf2) e1 S.sep1_2) fun p2 e hq he => ?_)
    replace hq : Heap.ExtBut i2 p1 p2 := hq
    exact k p2 k1 e (fun b o q1 q2 q3 x => hq _ _ q3 (e1.extBut _ _ q2 (e0.extBut _ _ q1 x))) he
  · have q : i = n1 := by omega
    refine wpAny_bind (D1.done ⟨g0, gs, dr, tk0, os⟩ _ _ (by rw [← q]; exact D1.over t1 e0 S.zf1) fun p1 e hq he => ?_)
    replace hq : Heap.ExtBut i1 g0 p1 := hq
    exact k p1 tk0 e (fun b o q1 q2 q3 x => hq _ _ q2 (e0.extBut _ _ q1 x)) he
theorem zipH_next {Q : Option Value → Shared → Prop} (S : ZipSep2 c TI TO i1 i2 f1 f2) (D1 : Draws P w A.in1 i1 f1 n1 P1 S1) (D2 : Draws P w A.in1 i2 f2 n2 P2 S2) (hc : IsZipHeld s.heap c TI TO T fl) (hT : s.heap.get? T = some oT) (hTI : IsPair s.heap TI (.ref i1) (.ref i2)) (t1 : S1 i s.heap) (t2 : S2 i s.heap) (l1 : i < n1) (l2 : i < n2)
    (k : ∀ x y h' tk, P1 i x → P2 i y → IsZipHeld h' c TI TO T true → S1 (i + 1) h' → S2 (i + 1) h' → IsPair h' s.heap.objs.size x y → (∀ b o, b ≠ c → b ≠ i1 → b ≠ i2 → s.heap.get? b = some o → h'.get? b = some o) → Q (some (.ref s.heap.objs.size)) { s with heap := h', toks := tk }) :
    wpAny (model P w) A (pyNext (.ref c)) Q E s := by
  have ty : s.TypeIs (.ref c) "zip" := ⟨_, hc, rfl⟩
  unfold pyNext
  refine wpAny_bind (wpAny_attempt (wpAny_callSpecial?_slot (name := Str.ofString "__next__") ty F.slot_zip_next (wpAny_call_entry F.slot_zip_next ty F.entry_zip_next ?_ (F.args_zip_next_1 _))))
  exact zipH_item S D1 D2 hc hT hTI t1 t2 l1 l2 fun x y h' tk a b d e f g h => wpAny_pure (k x y h' tk a b d e f g h)
theorem zipH_stop {Q : Option Value → Shared → Prop} (S : ZipSep2 c TI TO i1 i2 f1 f2) (D1 : Draws P w A.in1 i1 f1 n1 P1 S1) (D2 : Draws P w A.in1 i2 f2 n2 P2 S2) (hc : IsZipHeld s.heap c TI TO T fl) (hT : s.heap.get? T = some oT) (hTI : IsPair s.heap TI (.ref i1) (.ref i2)) (t1 : S1 i s.heap) (t2 : S2 i s.heap) (l1 : i ≤ n1) (l2 : i ≤ n2) (he : i = n1 ∨ i = n2)
    (k : ∀ h' tk, (∀ b o, b ≠ c → b ≠ i1 → b ≠ i2 → s.heap.get? b = some o → h'.get? b = some o) → Q none { s with heap := h', toks := tk }) : wpAny (model P w) A (pyNext (.ref c)) Q E s := by
  have ty : s.TypeIs (.ref c) "zip" := ⟨_, hc, rfl⟩
  unfold pyNext
  refine wpAny_bind (wpAny_attempt (wpAny_callSpecial?_slot (name := Str.ofString "__next__") ty F.slot_zip_next (wpAny_call_entry F.slot_zip_next ty F.entry_zip_next (zipH_end S D1 D2 hc hT hTI t1 t2 l1 l2 he fun h' tk e hk ⟨o, ho, hcl⟩ => ?_) (F.args_zip_next_1 _))))
  exact wpAny_bind (wpAny_isInstance (T := "StopIteration") (b := true) ⟨o, ho, hcl⟩ isSubtype_stop (wpAny_pure (k _ _ hk)))
end
/-- a zip of two (lists or tuples) as the argument of dict() -/
theorem pairZip {P : Program} {w : World} {c TI TO i1 i2 a b : Addr} {k1 k2 : Bool} {xs ys : Array Value} (S : ZipSep2 c TI TO i1 i2 [i1, a] [i2, b]) (n1 : a ≠ i1) (n2 : b ≠ i2) :
    PairArg P w "zip" c [c, TI, TO, i1, i2, a, b] [c, TO, i1, i2] (min xs.size ys.size) (fun i k v => xs[i]? = some k ∧ ys[i]? = some v)
      (fun h => IsZip h c TI TO .none ∧ IsPair h TI (.ref i1) (.ref i2) ∧ (∃ x y, IsPair h TO x y) ∧ (isit k1 h i1 a 0 ∧ isq k1 h a xs) ∧ (isit k2 h i2 b 0 ∧ isq k2 h b ys)) where
  type := fun s ok => ⟨_, ok.1, rfl⟩
  notDict := by decide
  keep := fun h h' ⟨q1, q2, ⟨x, y, q3⟩, ⟨q4, q5⟩, ⟨q6, q7⟩⟩ hk => ⟨hk _ _ q1, hk _ _ q2, ⟨x, y, hk _ _ q3⟩, ⟨q4.keep fun o e => hk _ o e, q5.keep fun o e => hk _ o e⟩, ⟨q6.keep fun o e => hk _ o e, q7.keep fun o e => hk _ o e⟩⟩
  there := fun h ⟨q1, q2, ⟨x, y, q3⟩, ⟨q4, q5⟩, ⟨q6, q7⟩⟩ d hd => by
    have ob : ∀ {k : Bool} {u : Addr} {its : Array Value}, isq k h u its → ∃ o, h.get? u = some o := fun {k u its} q => by
      cases k with
      | true => obtain ⟨o, e, _⟩ := (show h.IsTuple u its from q); exact ⟨o, e⟩
      | false => obtain ⟨o, e, _⟩ := (show h.IsList u its from q); exact ⟨o, e⟩
    have io : ∀ {k : Bool} {u v : Addr} {n : Nat}, isit k h u v n → ∃ o, h.get? u = some o := fun q => let ⟨o, e, _⟩ := q.obj; ⟨o, e⟩
    simp only [List.mem_cons, List.not_mem_nil, or_false] at hd
    rcases hd with e | e | e | e | e | e | e <;> rw [e]
    · exact ⟨_, q1⟩
    · exact ⟨_, q2⟩
    · exact ⟨_, q3⟩
    · exact io q4
    · exact io q6
    · exact ob q5
    · exact ob q7
  sub := fun d hd => by
    simp only [List.mem_cons, List.not_mem_nil, or_false] at hd ⊢
    rcases hd with e | e | e | e <;> simp [e]
  noKeys := fun A s Q E hA ok h => getAttrOr_miss_zip ok.1 rfl rfl rfl zip_no_keys (by decide +kernel) hA h
  iter := fun A s d Q E hA ⟨q1, q2, ⟨x0, y0, q3⟩, ⟨q4, q5⟩, ⟨q6, q7⟩⟩ hd hdf k => by
    simp only [List.mem_cons, List.not_mem_nil, or_false, not_or] at hdf
    obtain ⟨dz, dI, dO, d1, d2, da, db⟩ := hdf
    refine wpAny_pyIter_zip q1 (k c [c, TO, i1, i2] (fun i h => IsPair h TI (.ref i1) (.ref i2) ∧ (isit k1 h i1 a i ∧ isq k1 h a xs) ∧ (isit k2 h i2 b i ∧ isq k2 h b ys) ∧
      ((IsZip h c TI TO .none ∧ ∃ x y, IsPair h TO x y) ∨ ∃ T f oT, IsZipHeld h c TI TO T f ∧ h.get? T = some oT ∧ T ≠ c ∧ T ≠ i1 ∧ T ≠ i2 ∧ T ≠ d)) s.heap s.toks ?_ ⟨q2, ⟨q4, q5⟩, ⟨q6, q7⟩, .inl ⟨q1, x0, y0, q3⟩⟩ (fun _ _ e => e) fun b hb => .inl hb)
    have D1 : ∀ A' : Around, A'.handled = none → Draws P w A' i1 [i1, a] xs.size (fun n v => xs[n]? = some v) (fun n h => isit k1 h i1 a n ∧ isq k1 h a xs) := fun A' hA' => draws_sq hA' i1 a n1 xs
    have D2 : ∀ A' : Around, A'.handled = none → Draws P w A' i2 [i2, b] ys.size (fun n v => ys[n]? = some v) (fun n h => isit k2 h i2 b n ∧ isq k2 h b ys) := fun A' hA' => draws_sq hA' i2 b n2 ys
    have wr : ∀ {p q : Heap}, (∀ u o, u ≠ c → u ≠ TO → u ≠ i1 → u ≠ i2 → p.get? u = some o → q.get? u = some o) → ∀ u o, u ∉ [c, TO, i1, i2] → p.get? u = some o → q.get? u = some o := fun hk u o hu e =>
      hk u o (fun z => hu (by simp [z])) (fun z => hu (by simp [z])) (fun z => hu (by simp [z])) (fun z => hu (by simp [z])) e
    exact {
      off := fun hm => by
        simp only [List.mem_cons, List.not_mem_nil, or_false] at hm
        rcases hm with e | e | e | e
        · exact dz e
        · exact dO e
        · exact d1 e
        · exact d2 e
      frame := fun i h1 h2 ⟨p1, ⟨p2, p3⟩, ⟨p4, p5⟩, p6⟩ hk => by
        refine ⟨hk _ _ (Ne.symm dI) p1, ⟨p2.keep fun o e => hk _ o (Ne.symm d1) e, p3.keep fun o e => hk _ o (Ne.symm da) e⟩, ⟨p4.keep fun o e => hk _ o (Ne.symm d2) e, p5.keep fun o e => hk _ o (Ne.symm db) e⟩, ?_⟩
        rcases p6 with ⟨z, x, y, t⟩ | ⟨T, f, oT, z, t, r1, r2, r3, r4⟩
        · exact .inl ⟨hk _ _ (Ne.symm dz) z, x, y, hk _ _ (Ne.symm dO) t⟩
        · exact .inr ⟨T, f, oT, hk _ _ (Ne.symm dz) z, hk _ _ r4 t, r1, r2, r3, r4⟩
      item := fun i s1 Q1 E1 hi ⟨p1, p2, p3, p6⟩ hds hQ => by
        have hx : i < xs.size := by omega
        have hy : i < ys.size := by omega
        have ne : ∀ {u o}, s1.heap.get? u = some o → s1.heap.objs.size ≠ u := fun e => Nat.ne_of_gt (Heap.lt_size e)
        have m1 : s1.heap.objs.size ≠ i1 := let ⟨_, e, _⟩ := p2.1.obj; ne e
        have m2 : s1.heap.objs.size ≠ i2 := let ⟨_, e, _⟩ := p3.1.obj; ne e
        rcases p6 with ⟨z, x, y, t⟩ | ⟨T, f, oT, z, t, r1, r2, r3, r4⟩
        · refine wpAny_pyNext_zipD2_item S (D1 A.in1 hA) (D2 A.in1 hA) z p1 t p2 p3 hx hy fun u v h' tk a1 a2 a3 a4 a5 a6 a7 a8 a9 => ?_
          exact hQ s1.heap.objs.size u v h' tk ⟨a1, a2⟩ (.inl ⟨_, a7, rfl, _, rfl⟩) ⟨a9 _ _ S.TIz S.TITO S.TIi1 S.TIi2 p1, a5, a6, .inr ⟨_, false, _, a3, a7, ne z, m1, m2, Nat.ne_of_gt hds⟩⟩ (wr a9)
        · refine zipH_next S (D1 A.in1 hA) (D2 A.in1 hA) z t p1 p2 p3 hx hy fun u v h' tk a1 a2 a3 a5 a6 a7 a9 => ?_
          exact hQ s1.heap.objs.size u v h' tk ⟨a1, a2⟩ (.inl ⟨_, a7, rfl, _, rfl⟩) ⟨a9 _ _ S.TIz S.TIi1 S.TIi2 p1, a5, a6, .inr ⟨T, true, oT, a3, a9 _ _ r1 r2 r3 t, r1, r2, r3, r4⟩⟩ (wr fun u o e1 _ e3 e4 e => a9 u o e1 e3 e4 e)
      done := fun s1 Q1 E1 ⟨p1, p2, p3, p6⟩ hQ => by
        rcases p6 with ⟨z, x, y, t⟩ | ⟨T, f, oT, z, t, r1, r2, r3, r4⟩
        · exact wpAny_pyNext_zipD2_end S (D1 A.in1 hA) (D2 A.in1 hA) z p1 t p2 p3 (by omega) (by omega) (by omega) fun h' tk hk => hQ h' tk (wr hk)
        · exact zipH_stop S (D1 A.in1 hA) (D2 A.in1 hA) z t p1 p2 p3 (by omega) (by omega) (by omega) fun h' tk hk => hQ h' tk (wr fun u o e1 _ e3 e4 e => hk u o e1 e3 e4 e) }
end Mini

set_option Elab.async false
set_option linter.all false
set_option maxRecDepth 100000
/-! MiniY: dict(zip(a, b)) and dict displays, their walks. -/
namespace Mini
open PySem L2
abbrev KA := List Key × Addr
def putAllV (acc : List (List Key × V)) (ps : List (KA × V)) : List (List Key × V) := ps.foldl (fun acc p => putK acc p.1.1 p.2) acc
theorem kt_all {H : Hp} : ∀ (ks : List KA) {ys : List V} {us : List Value} {acc : List (List Key × V)} {xs : List (List Key × Addr × Value)}, Vals ys us → KT H acc xs → (∀ q ∈ ks, H q.2 = some (.tup (q.1.map kV))) →
    KT H (putAllV acc (ks.zip ys)) (storedAllH xs ((ks.zip us).map fun p => (p.1.1, p.1.2, p.2)))
  | [], _, _, _, _, _, k, _ => k
  | q :: ks, _, _, _, _, .nil, k, _ => k
  | q :: ks, _, _, acc, xs, .cons r rs, k, h => by
    have k1 := KT.put k q.1 (h q (List.mem_cons_self ..)) r
    exact kt_all ks rs k1 fun p hp => h p (List.mem_cons_of_mem _ hp)
def tDz (K : PySem.W.Frag) (t : TA) : TE := fun σ H Q => t σ H fun vs H2 => ∃ (k1 k2 : Bool) (a b : Addr) (ks : List KA) (ys : List V), vs = [.ref a, .ref b] ∧ SqK k1 K H2 a (ks.map fun q => V.ref q.2) ∧ SqK k2 K H2 b ys ∧
  (∀ q ∈ ks, H2 q.2 = some (.tup (q.1.map kV))) ∧ ∀ p, H2 p = none → Q (.ref p) (upd H2 p (.dT (putAllV [] (ks.zip ys))))
theorem refs_is : ∀ {ks : List KA} {us : List Value}, Vals (ks.map fun q => V.ref q.2) us → us = ks.map fun q => Value.ref q.2
  | [], _, .nil => rfl
  | q :: ks, _, .cons r rs => by
    cases r
    rw [List.map_cons, ← refs_is rs]
theorem putAll_len : ∀ (ps : List (KA × V)) (acc : List (List Key × V)), (putAllV acc ps).length ≤ acc.length + ps.length
  | [], acc => Nat.le_refl _
  | p :: ps, acc => by
    have h1 := putAll_len ps (putK acc p.1.1 p.2)
    have h2 := length_putK acc p.1.1 p.2
    show (putAllV (putK acc p.1.1 p.2) ps).length ≤ acc.length + (ps.length + 1)
    omega
theorem sq_len {X : Cx} {pins : List (Addr × Obj)} {σ : St} {H : Hp} {s : Shared} {k : Bool} {a : Addr} {xs : List V} (I : L2.Inv X pins σ H s) (h : SqK k X.K H a xs) : xs.length ≤ sizeLine := by
  cases k with
  | true => obtain ⟨_, _, _, z⟩ := I.tuple h; exact z
  | false => obtain ⟨_, _, _, z⟩ := I.list h; exact z
section
variable {X : Cx} {a b : Expr} {ta tb : TE} {p p2 q pos : Pos}
theorem pe_dzip {t : TA} (hc : X.calm = true) (hu : X.A.units + 64 < cLine) (hg : Gl X "dict") (hm : X.mg "dict" = none) (hg2 : Gl X "zip") (hm2 : X.mg "zip" = none) (pab : PA X [a, b] t) (n1 : isStar a = false) (n2 : isStar b = false) :
    PE X (.Call (.Name "dict" p) [.Call (.Name "zip" p2) [a, b] [] q] [] pos) (tDz X.K t) := by
  refine ⟨fun pins s σ H Q I h => ?_⟩
  refine PyProof.Rows.Call_ (ld_blt I hg hm PyProof.Rows.boot_dict (PyProof.Rows.callWith_type1 (PyProof.Rows.args_cons (PyProof.Rows.Call_ (ld_blt I hg2 hm2 PyProof.Rows.boot_zip (PyProof.Rows.callWith_type1 (thn (pab.run q pins s σ H _ I h) fun us s1 ⟨vs, H1, I1, r1, q1⟩ => ?_) (star_cons n1) (by rw [star_cons n2]; rfl)))) rfl) rfl rfl))
  obtain ⟨k1, k2, a, b, ks, ys, ex, hqx, hqy, hks, qf⟩ := q1
  subst ex
  obtain ⟨u1, u2, rfl, r, r'⟩ := Vals.two r1
  cases r
  cases r'
  obtain ⟨its, rv, p1⟩ := inv_sq I1 hqx
  obtain ⟨its2, rv2, p2'⟩ := inv_sq I1 hqy
  have ei := refs_is rv
  subst ei
  have la := p1.lt
  have lb := p2'.lt
  have z1 := sq_len I1 hqx
  rw [List.length_map] at z1
  have hh := I1.ok.hd hc
  refine zip_begins2 (begins_sq a _) (begins_sq b its2.toArray) p1 p2' fun h' hz hTI hTO g1 g2 hsz hk => PyProof.Rows.args_nil ?_
  have S : ZipSep2 (s1.heap.objs.size + 4) (s1.heap.objs.size + 2) (s1.heap.objs.size + 3) s1.heap.objs.size (s1.heap.objs.size + 1) [s1.heap.objs.size, a] [s1.heap.objs.size + 1, b] :=
    zip_sep2 (fun c hc => by rw [List.mem_singleton.mp hc]; exact la) (fun c hc => by rw [List.mem_singleton.mp hc]; exact lb)
  have len2 := rv2.length
  have tk : ∀ q ∈ ks, IsTupleKey (mixKind X.prog X.w) s1.heap q.1 q.2 := fun q hq => key_of I1.hok (hks q hq)
  have low : ∀ b' o, s1.heap.get? b' = some o → b' ∉ [s1.heap.objs.size + 4, s1.heap.objs.size + 3, s1.heap.objs.size, s1.heap.objs.size + 1] := fun b' o e hm => by
    have := Heap.lt_size e
    simp only [List.mem_cons, List.not_mem_nil, or_false] at hm
    rcases hm with q | q | q | q <;> (rw [q] at this; first | exact absurd this (Nat.lt_irrefl _) | exact absurd this (Nat.not_lt.mpr (Nat.le_add_right _ _)))
  refine call_dict_pairsH (s := { s1 with heap := h' }) (A := X.A) (knd := tupleKind (mixKind X.prog X.w)) (ps := (ks.zip its2).map fun p => (p.1.1, p.1.2, p.2)) (pairZip (k1 := k1) (k2 := k2) S (Nat.ne_of_lt la) (Nat.ne_of_lt (Nat.lt_succ_of_lt lb))) hh (by show X.A.units + 1 + 1 < cLine; omega)
    ⟨hz, hTI, ⟨_, _, hTO⟩, ⟨itO_is g1, p1.keep fun o e => hk _ o e⟩, ⟨itO_is g2, p2'.keep fun o e => hk _ o e⟩⟩ ⟨?_, ?_⟩ ?_ ?_ fun h2 tk2 hd hkk => ?_
  · simp
  · rintro i key v ⟨e1, e2⟩
    have e1 : (ks.map fun q => Value.ref q.2)[i]? = some key := by simpa using e1
    have e2 : its2[i]? = some v := by simpa using e2
    rw [List.getElem?_map] at e1
    obtain ⟨q, h1, h2⟩ := Option.map_eq_some_iff.mp e1
    refine ⟨q.1, q.2, ?_, h2.symm⟩
    have hz : (ks.zip its2)[i]? = some (q, v) := List.getElem?_zip_eq_some.mpr ⟨h1, e2⟩
    rw [List.getElem?_map, hz]
    rfl
  · intro h3 hk3 x hx
    obtain ⟨y, hy, rfl⟩ := List.mem_map.mp hx
    have hq : y.1 ∈ ks := (List.of_mem_zip (a := y.1) (b := y.2) hy).1
    exact tupleKind_stays.stays (fun b' o vs n e _ => hk3 b' o (Nat.ne_of_lt (by
      have := Heap.lt_size e
      show b' < h'.objs.size
      exact Nat.lt_of_lt_of_le this (by rw [hsz]; exact Nat.le_add_right _ _))) (low b' o e) (hk b' o e)) (tk _ hq)
  · simp
    omega
  · have nD : H1 h'.objs.size = none := I1.hok.fresh (by omega)
    have big := I1.big
    have nS : (h'.objs.size == sysModules) = false := by
      cases e : h'.objs.size == sysModules with
      | false => rfl
      | true =>
        have e := eq_of_beq e
        rw [← e, hsz] at big
        exact absurd big (Nat.not_lt.mpr (Nat.le_add_right _ _))
    have kt := kt_all ks (acc := []) (xs := []) rv2 .nil hks
    have ln := putAll_len (ks.zip ys) []
    have ln2 : (ks.zip ys).length ≤ ks.length := by rw [List.length_zip]; exact Nat.min_le_left ..
    obtain ⟨o9, es9, ep9, d1, d2, d3, d4, _, d6⟩ := hd
    have ktD : KT (upd H1 h'.objs.size (.dT (putAllV [] (ks.zip ys)))) (putAllV [] (ks.zip ys)) (storedAllH [] ((ks.zip its2).map fun p => (p.1.1, p.1.2, p.2))) := kt.keeps fun b' zs e => by rw [upd_ne (ne_of_none e nD)]; exact e
    have I2 := I1.laid (a := h'.objs.size) (o := .dT (putAllV [] (ks.zip ys))) (h' := h2) (t' := tk2) (fun b' u e => hkk b' u (low b' u e) (hk b' u e)) (by omega)
      ⟨by simp only [List.length_nil] at ln; omega, nS, _, ktD, ⟨o9, es9, ep9, d1, d2, d3, d4, d6⟩⟩
    exact ⟨.ref h'.objs.size, _, I2, rfl, qf _ nD⟩
end
end Mini

set_option Elab.async false
set_option linter.all false
set_option maxRecDepth 100000
/-! MiniX: sets of ints: set(xs), xs a list (by the road of the library's rule for a tuple). -/
namespace Mini
open PySem PySem.Spec PyProof.Rows L2
open PySem.Sem (wp)
section
variable {P : Program} {w : World} {A : Around} {E : Value → Shared → Prop} {s : Shared}
set_option maxHeartbeats 3200000 in
theorem call_set_lstI {l : Addr} {its : Array Value} (ms : List Int) {Q : Value → Shared → Prop} (hA : A.handled = none) (hl : s.heap.IsList l its) (hI : IntsAre its.toList ms) (hB : ms.length + 1 < scanBound)
    (h : ∀ (h' : Heap) (tk c : Nat), SetR w h' s.heap.objs.size (fun j => decide (j ∈ ms)) c → c ≤ ms.length → (∀ b o, s.heap.get? b = some o → h'.get? b = some o) → Q (.ref s.heap.objs.size) { s with heap := h', toks := tk }) :
    wpAny (model P w) A (call (.type "set") [.ref l]) Q E s := by
  have hZ : its.size = ms.length := by
    have q := IntsAre.length hI
    rw [Array.length_toList] at q
    exact q
  obtain ⟨c, tl, hmro⟩ := F.called_set.mro
  have mk := F.called_set.made
  have sb := F.called_set.sub
  refine wpAny_call (codeAny_of_tree ?_)
  show wpAny _ _ (callAny (.type "set") _) _ _ _
  refine wpAny_pure ⟨Code.quiet_builtin _ (by decide +kernel), codeAny_builtin F.entry_type_call ?_⟩
  rw [Around.under_plain (weight_type_call_type "set" [.ref l] []) rfl]
  have h1 := F.called_set.notType
  have h2 := F.called_set.canCreate
  have tc := F.typeCall_set_1 (.ref l)
  repeat (any_goals (first | assumption | wp_step))

  refine codeAny_mono (code_set_led1 (.ref l) (E := E) (Q₁ := fun obj s₁ => obj = .ref s.heap.objs.size ∧ s₁ = { s with heap := s.heap.push { cls := .type "set", dict := none, data := .set #[] 0 (.fresh 0 0 (!w.params.followText "set-order")) } }) ⟨rfl, rfl⟩) fun r s₁ hr => ?_
  cases r with
  | error e => exact hr
  | ok fl =>
    cases fl with
    | ret obj =>
      obtain ⟨rfl, rfl⟩ := hr
      have hN : (s.heap.push { cls := .type "set", dict := none, data := .set #[] 0 (.fresh 0 0 (!w.params.followText "set-order")) }).get? s.heap.objs.size = some { cls := .type "set", dict := none, data := .set #[] 0 (.fresh 0 0 (!w.params.followText "set-order")) } := Heap.get?_push_size _ rfl
      have hY : Shared.TypeIs { s with heap := s.heap.push { cls := .type "set", dict := none, data := .set #[] 0 (.fresh 0 0 (!w.params.followText "set-order")) } } (.ref s.heap.objs.size) "set" := ⟨_, hN, rfl⟩
      have il := F.called_set.init.lookup
      have ib := F.called_set.init.bind (.ref s.heap.objs.size)
      repeat (any_goals (first | assumption | wp_step))

      refine codeAny_mono (codeAny_call_builtin (R := wants (fun r s₂ => r = .none ∧ ∃ h' tk c, s₂ = { s with heap := h', toks := tk } ∧ SetR w h' s.heap.objs.size (fun j => decide (j ∈ ms)) c ∧ c ≤ ms.length ∧
          (∀ b o, s.heap.get? b = some o → h'.get? b = some o)) E) F.called_set.init.plain F.entry_set_init (check_set_init_1 hY ?_)) fun r₂ s₂ hr₂ => ?_
      · obtain ⟨ol, gL, cL, nl, dL⟩ := hl
        obtain ⟨ocls, odict, odata, oslots⟩ := ol
        simp only at cL dL
        subst cL; subst dL
        have gL' : (s.heap.push { cls := .type "set", dict := none, data := .set #[] 0 (.fresh 0 0 (!w.params.followText "set-order")) }).get? l = some { cls := .type "list", dict := odict, data := .seq its nl, slots := oslots } := Heap.get?_push_of_some _ gL
        have hsls := F.sub_list_set
        have hslf := F.sub_list_frozenset
        have hne : (Value.type "list" == Value.type "dict") = false := by decide
        have pl : (s.heap.push { cls := .type "set", dict := none, data := .set #[] 0 (.fresh 0 0 (!w.params.followText "set-order")) }).IsList l its := ⟨_, gL', rfl, nl, rfl⟩
        unfold Builtin.«set.__init__» noKeywords Builtin.Frozenset.updateFrom
        generalize hPI : pyIter = PI
        wp_walk
        subst hPI

        refine wpAny_pyIter_list pl ?_
        refine wpAny_bind (wpAny_runValue ?_)
        have ltS : l < s.heap.objs.size := Heap.lt_size gL
        have hA3 : A.in1.in1.in1.handled = none := by simp [hA]
        have z9 : (s.heap.push { cls := .type "set", dict := none, data := .set #[] 0 (.fresh 0 0 (!w.params.followText "set-order")) }).objs.size = s.heap.objs.size + 1 := Heap.size_push ..
        have nI : l ≠ (s.heap.push { cls := .type "set", dict := none, data := .set #[] 0 (.fresh 0 0 (!w.params.followText "set-order")) }).objs.size := by
          rw [Heap.size_push]; exact Nat.ne_of_lt (Nat.lt_succ_of_lt ltS)
        have nS : s.heap.objs.size ∉ [(s.heap.push { cls := .type "set", dict := none, data := .set #[] 0 (.fresh 0 0 (!w.params.followText "set-order")) }).objs.size, l] := by
          rw [Heap.size_push]; simp only [List.mem_cons, List.mem_singleton, List.not_mem_nil, or_false, not_or]
          exact ⟨Nat.ne_of_lt (Nat.lt_succ_self _), Nat.ne_of_gt ltS⟩
        have vals : ∀ (i : Nat) (v : Value), its[i]? = some v → ∃ k t, ms[i]? = some k ∧ v = .int k t := fun i v hv => by
          have hi : i < ms.length := by rw [← hZ]; exact (Array.getElem?_eq_some_iff.mp hv).1
          obtain ⟨t, e⟩ := PyProof.Rows.IntsAre.int_at hI i v (by rw [Array.getElem?_toList]; exact hv)
          refine ⟨ms[i], t, List.getElem?_eq_getElem hi, ?_⟩
          rw [e, List.getD_eq_getElem?_getD, List.getElem?_eq_getElem hi] <;> rfl
        refine set_update_ints ((Walks.list hA3 _ l nI its).toS) s.heap.objs.size
          nS ms hZ hB vals (its.size - 0) 0 _ (by omega) (Nat.zero_le _)
          ⟨⟨_, Heap.get?_push_size _ rfl, rfl, rfl⟩, (pl.push _)⟩ ?hS0 ?hR
        case hS0 =>
          have gt : ((s.heap.push { cls := .type "set", dict := none, data := .set #[] 0 (.fresh 0 0 (!w.params.followText "set-order")) }).push { cls := .type "list_iterator", data := .fields #[.ref l, .int 0 0] }).get? s.heap.objs.size
              = some { cls := .type "set", dict := none, data := .set #[] 0 (.fresh 0 0 (!w.params.followText "set-order")) } := Heap.get?_push_of_some _ hN
          exact ⟨0, Nat.le_refl 0, setR_new_at gt⟩
        case hR =>
          intro s' c' hm hc' hN'
          obtain ⟨h', g2, d', tk', os'⟩ := s'
          have eg : g2 = s.gens := hm.gens
          have ed : d' = s.drawn := hm.drawn
          have eo : os' = s.os := hm.os
          subst eg; subst ed; subst eo
          show wpAny _ _ _ _ _ _
          refine wpAny_pure ?_
          show wpAny _ _ (ret Value.none) _ _ _
          rw [hZ] at hc'
          refine wpAny_pure ⟨rfl, h', tk', c', rfl, hN', hc', fun b o e => ?_⟩
          have hb0 : b < s.heap.objs.size := Heap.lt_size e
          have hb1 : b ≠ s.heap.objs.size := Nat.ne_of_lt hb0
          have hb2 : b ≠ (s.heap.push { cls := .type "set", dict := none, data := .set #[] 0 (.fresh 0 0 (!w.params.followText "set-order")) }).objs.size := by
            rw [Heap.size_push]; exact Nat.ne_of_lt (Nat.lt_succ_of_lt hb0)
          exact hm.heap b o (by simp only [List.mem_cons, List.mem_singleton, List.not_mem_nil, or_false, not_or]; exact ⟨hb1, hb2⟩) (Heap.get?_push_of_some _ (Heap.get?_push_of_some _ e))

      · cases r₂ with
        | error e => exact hr₂
        | ok fl₂ =>
          cases fl₂ with
          | ret r =>
            obtain ⟨rfl, h', tk, c', rfl, hN', hc', hk'⟩ := hr₂
            repeat (any_goals (first | assumption | wp_step))
            exact h _ _ _ hN' hc' hk'
          | _ => exact hr₂.elim
    | _ => exact hr.elim

end
end Mini

set_option Elab.async false
set_option linter.all false
set_option maxRecDepth 100000
/-! Mini11: targets, comprehensions. -/
namespace Mini
open PySem L2
theorem wipe_get {τ : St} {j : Nat} : ∀ {vs : List Nat}, (L2.wipe τ vs)[j]? = if j ∈ vs then (if j < τ.length then some none else none) else τ[j]?
  | [] => by simp [L2.wipe]
  | w :: vs => by
    unfold L2.wipe
    by_cases hw : w = j
    · subst hw
      rw [if_pos (List.mem_cons_self ..)]
      by_cases hl : w < τ.length
      · rw [List.getElem?_set_self (by rw [wipe_length]; exact hl), if_pos hl]
      · rw [List.getElem?_eq_none (by rw [List.length_set, wipe_length]; omega), if_neg hl]
    · rw [List.getElem?_set_ne hw, wipe_get]
      have e : (j ∈ w :: vs) ↔ j ∈ vs := by rw [List.mem_cons]; exact ⟨fun h => h.resolve_left (Ne.symm hw), .inr⟩
      simp only [e]
theorem wipe_wipe (σ : St) (vs : List Nat) : L2.wipe (L2.wipe σ vs) vs = L2.wipe σ vs := by
  apply List.ext_getElem?
  intro j
  rw [wipe_get, wipe_get, wipe_length]
  by_cases h : j ∈ vs
  · rw [if_pos h, if_pos h]
  · rw [if_neg h, if_neg h]
def tgsLen : Tgs → Nat
  | .nil => 0
  | .cons _ r => tgsLen r + 1
theorem evTgs_len {Φ : Str → List PV → M PV} : ∀ (ts : Tgs) (xs : List PV) (ρ : Env) (s : Store) (ρ' : Env) (s' : Store), evTgs Φ ts xs ρ s = .ok ρ' s' → xs.length = tgsLen ts
  | .nil, [], _, _, _, _, _ => rfl
  | .nil, _ :: _, _, _, _, _, h => by simp [evTgs, M.stuck] at h
  | .cons _ _, [], _, _, _, _, h => by simp [evTgs, M.stuck] at h
  | .cons t r, x :: xs, ρ, s, ρ', s', h => by
    simp only [evTgs, M.bnd] at h
    cases e : evTg Φ t x ρ s with
    | ok ρ1 s1 =>
      rw [e] at h
      have := evTgs_len r xs ρ1 s1 ρ' s' h
      simp [tgsLen, this]
    | exc _ _ => rw [e] at h; cases h
    | stuck => rw [e] at h; cases h
section
variable {g : G} {ct : Ct} {n : Nat} {W : WX} {X : Cx} {a b d : Expr} {ma mb md : Env → M PV} {pos : Pos}
theorem stor_ok (c : COk g ct n W X) {x : Str} (h : storB ct x = true) : L2.Loc X.env.scope x ∧ (X.fn x = true ∨ X.env.scope.names.lookup x = some .local) := by
  unfold L2.Loc
  rw [c.sc]
  rcases Bool.or_eq_true_iff.mp h with h | h
  · have h := of_decide_eq_true h
    exact ⟨.inl h, .inr h⟩
  · obtain ⟨h1, h2⟩ := Bool.and_eq_true_iff.mp h
    exact ⟨.inr (of_decide_eq_true h1), .inl (c.fn _ (of_decide_eq_true h2))⟩
theorem g_name {i : Nat} {x : Str} {p : Pos} (c : COk g ct n W X) (h1 : ct.N[i]? = some x) (h2 : storB ct x = true) :
    PG X (.Name x p) (tG g [i] fun v ρ => if decide (i < ρ.length) then M.ret (ρ.set i (some v)) else M.stuck) := by
  obtain ⟨hL, hf⟩ := stor_ok c h2
  refine PG.wk (pg_name (i := i) (by rw [c.N]; exact c.nd) (by rw [c.N]; exact h1) hL hf) fun v σ H Q ⟨io, ρ, s, q, E, S, r, h⟩ => ?_
  simp only at h
  by_cases hi : i < ρ.length
  · rw [if_pos (decide_eq_true hi)] at h
    exact h io H (Gr.refl _ _) S _ (E.set i r) (keeps_set _ _ _)
  · rw [if_neg (by simpa using hi)] at h
    exact h.elim
theorem assign_len {env : PySem.Env} : ∀ {es : List Expr}, (assignEach es env).length = es.length
  | [] => rfl
  | e :: es => by cases e <;> (show (assignEach es env).length + 1 = es.length + 1; rw [assign_len])
theorem assign_star {env : PySem.Env} : ∀ {es : List Expr}, nostar es = true → (assignEach es env).findIdx? (·.1) = none
  | [], _ => rfl
  | e :: es, h => by
    obtain ⟨h1, h2⟩ := Bool.and_eq_true_iff.mp (show (!isStar e && es.all fun e => !isStar e) = true from h)
    have ih := assign_star (env := env) h2
    have e1 : assignEach (e :: es) env = (false, assign e env) :: assignEach es env := by cases e <;> first | rfl | (simp [isStar] at h1)
    rw [e1, List.findIdx?_cons]
    simp [ih]
theorem assign_cons {e : Expr} {es : List Expr} {env : PySem.Env} (h : isStar e = false) : (assignEach (e :: es) env).map (·.2) = assign e env :: (assignEach es env).map (·.2) := by
  cases e <;> first | rfl | (simp [isStar] at h)
theorem g_tup {es : List Expr} {k : Nat} {sl : List Nat} {ts : Tgs} {Φ : Str → List PV → M PV} (c : COk g ct n W X) (hs : nostar es = true) (hl : tgsLen ts = es.length) (h : PGs X es (tGs g sl (evTgs Φ ts))) : PG X (.Tuple es k pos) (tG g sl (evTg Φ (.tp ts))) := by
  refine PG.wk (pg_tup c.calm h assign_len (assign_star hs)) fun v σ H Q ⟨io, ρ, s, q, E, S, r, h⟩ => ?_
  simp only [evTg] at h
  split at h
  · rename_i ps
    cases r with
    | tup z q =>
      refine ⟨_, _, rfl, SqT.of z, ?_, ⟨io, ρ, s, ps, E, S, q, h⟩⟩
      rw [← q.length]
      cases e : evTgs Φ ts ps ρ s with
      | ok ρ' s' => rw [evTgs_len ts ps ρ s ρ' s' e, hl]
      | exc _ _ => rw [e] at h; exact h.elim
      | stuck => rw [e] at h; exact h.elim
  · exact h.elim
theorem g_nil {Φ : Str → List PV → M PV} : PGs X [] (tGs g [] (evTgs Φ .nil)) := by
  refine PGs.wk pgs_nil fun v σ H Q ⟨io, ρ, s, q, E, S, r, h⟩ => ?_
  cases q with
  | nil => cases r; exact ⟨rfl, h io H (Gr.refl _ _) S _ E (keeps_refl _ _)⟩
  | cons _ _ => simp only [evTgs] at h; exact h.elim
theorem keeps.wk {s1 s2 : List Nat} {σ σ' : St} (h : keeps s1 σ σ') (k : ∀ i ∈ s1, i ∈ s2) : keeps s2 σ σ' := fun vs hv => h vs fun i hi => hv i (k i hi)
theorem g_cons {e : Expr} {es : List Expr} {s1 s2 : List Nat} {t : Tg} {r : Tgs} {Φ : Str → List PV → M PV} (hs : isStar e = false) (h1 : PG X e (tG g s1 (evTg Φ t))) (h2 : PGs X es (tGs g s2 (evTgs Φ r))) : PGs X (e :: es) (tGs g (s1 ++ s2) (evTgs Φ (.cons t r))) := by
  refine PGs.wk (pgs_cons h1 h2 (assign_cons hs)) fun v σ H Q ⟨io, ρ, s, q, E, S, r, h⟩ => ?_
  cases q with
  | nil => simp only [evTgs] at h; exact h.elim
  | cons p ps =>
    cases r with
    | cons r1 r2 =>
      simp only [evTgs] at h
      refine ⟨_, _, rfl, io, ρ, s, p, E, S, r1, (OkN.bnd h).imp fun io1 H1 s1 ρ1 gr S1 h1 σ1 E1 k1 => ?_⟩
      exact ⟨io1, ρ1, s1, ps, E1, S1, r2.grow gr S.sto, h1.imp fun io2 H2 s2 ρ2 gr2 S2 h2 σ2 E2 k2 => h2 σ2 E2 (k1.trans k2)⟩
theorem slice_assign {o i : Expr} {env : PySem.Env} (h : vSlice i = none) : ∀ v, assign (.Subscript o i pos) env v = (do
      let ov ← holding [v] (eval o env)
      let iv ← holding [v, ov] (eval i env)
      standAt pos
      holding [v, ov, iv] (setItem ov iv v)
      release [v, ov, iv] []) := by
  intro v
  cases i <;> first | rfl | (simp [vSlice] at h)
theorem g_sub (c : COk g ct n W X) (hs : vSlice b = none) (ha : PE X a (tE g W ma)) (hb : PE X b (tE g W mb)) : PG X (.Subscript a b pos) (tG g [] fun v ρ => (ma ρ).bnd fun x => (mb ρ).bnd fun y => M.liftS fun s => (setI x y v s).map fun s' => (ρ, s')) := by
  refine PG.wk (pg_sub ha hb (setR (g := g) (by have := units_of c; omega)) (slice_assign hs)) fun v σ H Q ⟨io, ρ, s, q, E, S, r, h⟩ => ?_
  refine tE_run E S h.bnd.ok fun io1 H1 s1 x xv q1 E1 S1 h1 r1 => ?_
  refine tE_run E1 S1 h1.bnd.ok fun io2 H2 s2 y yv q2 E2 S2 h2 r2 => ?_
  obtain ⟨ρ', s', hv, hP⟩ := liftN_ok h2
  obtain ⟨s3, e3, e4⟩ := Option.map_eq_some_iff.mp hv
  cases e4
  exact ⟨io2, s2, x, y, q, _, S2, r1.grow q2 S1.sto, r2, (r.grow q1 S.sto).grow q2 S1.sto, e3, fun io' H' gr S' => hP io' H' gr S' σ (E2.grow gr S2.sto) (keeps_refl _ _)⟩

/-! ### what a comprehension holds at its turns -/
structure GrD (D : Addr) (io : Io) (H : Hp) (io' : Io) (H' : Hp) : Prop where
  ext : ∀ (a : Addr) (o : HO), a ≠ D → a ∉ io.at_ → H a = some o → (n : NT o := by first | assumption | exact exO_nt _ _ _ | (intro _ z; cases z)) → H' a = some o
  tb : LamX.Tabs io.tabs H → LamX.Tabs io.tabs H'
  live : ∀ a, H' a = none → H a = none
  pre : ∃ new, io' = io.app new ∧ ∀ a ∈ new, H a = none
theorem GrD.refl (D : Addr) (io : Io) (H : Hp) : GrD D io H io H := ⟨fun _ _ _ _ h _ => h, fun h => h, fun _ h => h, [], (Io.app_nil io).symm, fun _ h => by cases h⟩
theorem GrD.trans {D : Addr} {io io1 io2 : Io} {H H1 H2 : Hp} (a : GrD D io H io1 H1) (b : GrD D io1 H1 io2 H2) : GrD D io H io2 H2 := by
  obtain ⟨n1, e1, h1⟩ := a.pre
  obtain ⟨n2, e2, h2⟩ := b.pre
  refine ⟨fun c o nD hc ho nt => b.ext c o nD ?_ (a.ext c o nD hc ho nt) nt, fun h => (by have z := b.tb; rw [e1] at z; exact z (a.tb h)), fun c hc => a.live c (b.live c hc), n1 ++ n2, by rw [e2, e1, Io.app_app], fun c hc => ?_⟩
  · rw [e1]
    show c ∉ io.at_ ++ n1
    rw [List.mem_append]
    rintro (z | z)
    · exact hc z
    · rw [h1 c z] at ho; cases ho
  · rcases List.mem_append.mp hc with z | z
    · exact h1 c z
    · exact a.live c (h2 c z)
theorem GrD.gr {D : Addr} {io io' : Io} {H H' : Hp} (h : GrD D io H io' H') (n : H D = none) : Gr io H io' H' := ⟨fun a o ha e nt => h.ext a o (ne_of_none e n) ha e nt, h.tb, h.live, h.pre⟩
theorem GrD.push {D : Addr} {io io' : Io} {H H' : Hp} {o : HO} (h : GrD D io H io' H') (n : H' D ≠ none) (pl : Plain (H' D)) : GrD D io H io' (upd H' D o) :=
  ⟨fun a u ne ha e nt => by rw [upd_ne ne]; exact h.ext a u ne ha e nt, fun t => tabs_upd pl (h.tb t), fun a e => by
    by_cases q : a = D
    · rw [q, upd_same] at e; cases e
    · rw [upd_ne q] at e; exact h.live a e, h.pre⟩
theorem Gr.unhide {D : Addr} {io : Io} {H : Hp} {io' : Io} {H' : Hp} (h : Gr (io.hide D) H io' H') : ∃ io2, io' = io2.hide D ∧ GrD D io H io2 H' := by
  obtain ⟨n, e, hn⟩ := h.pre
  exact ⟨io.app n, by rw [e]; rfl, ⟨fun a o _ ha e nt => h.ext a o ha e nt, h.tb, h.live, n, rfl, hn⟩⟩
theorem GrD.at {D : Addr} {io io' : Io} {H H' : Hp} (r : GrD D io H io' H') {n : Nat} {a : Addr} (h : io.at_[n]? = some a) : io'.at_[n]? = some a := by
  obtain ⟨k, e, _⟩ := r.pre
  rw [e]
  show (io.at_ ++ k)[n]? = some a
  rw [List.getElem?_append_left (List.getElem?_eq_some_iff.mp h).1]; exact h
theorem GrD.mv {g : G} {D : Addr} {io io' : Io} {H H' : Hp} (r : GrD D io H io' H') (s : Sto io H) {xs : List V} (hD : H D = some (.lst xs)) : Mv g (io.hide D) H (io'.hide D) H' where
  ext := fun a o n e nt => by
    obtain ⟨n1, n2⟩ := Io.not_hide.mp n
    obtain ⟨m1, m2⟩ := Io.not_mem.mp n1
    refine ⟨Io.not_hide.mpr ⟨Io.not_mem.mpr ⟨?_, ?_⟩, n2⟩, r.ext a o n2 m1 e nt⟩
    · obtain ⟨k, ek, hk⟩ := r.pre
      rw [ek]
      show a ∉ io.at_ ++ k
      rw [List.mem_append]
      rintro (z | z)
      · exact m1 z
      · rw [hk a z] at e; cases e
    · obtain ⟨k, ek, hk⟩ := r.pre
      rw [ek]; exact m2
  at_ := fun n a h => r.at h
  tup := fun a ys h => r.ext _ _ (fun z => by rw [z, hD] at h; cases h) (s.tup h) h
  code := fun a q h => r.ext _ _ (fun z => (Plain.lst (xs := xs)).code a q (by rw [← hD, ← z]; exact h)) (fun z => (s.plain z).code a q h) h
/-- a comprehension's list so far -/
structure Cd (g : G) (D : Addr) (iob : Io) (Hb : Hp) (acc : List PV) (st : Store) (io : Io) (H : Hp) : Prop where
  gr : GrD D iob Hb io H
  st : SRp g (io.hide D) H st
  out : D ∉ io.at_
  acc : ∃ xs, H D = some (.lst xs) ∧ Reps g (io.hide D) H acc xs
theorem Cd.step {D : Addr} {iob io io3 : Io} {Hb H H3 : Hp} {acc : List PV} {st st3 : Store} (c : Cd g D iob Hb acc st io H) (q : Gr (io.hide D) H io3 H3) (S : SRp g io3 H3 st3) : ∃ io4, io3 = io4.hide D ∧ Cd g D iob Hb acc st3 io4 H3 := by
  obtain ⟨io4, rfl, k⟩ := q.unhide
  obtain ⟨xs, hx, r⟩ := c.acc
  exact ⟨io4, rfl, c.gr.trans k, S, q.outS c.out hx, xs, q.ext D _ c.out hx, r.grow q c.st.sto⟩
theorem Cd.push {D : Addr} {iob io : Io} {Hb H : Hp} {acc : List PV} {st : Store} {y : PV} {yv : V} (c : Cd g D iob Hb acc st io H) (r : Rep g (io.hide D) H y yv) :
    ∃ xs, H D = some (.lst xs) ∧ xs.length = acc.length ∧ Cd g D iob Hb (acc ++ [y]) st io (upd H D (.lst (xs ++ [yv]))) := by
  obtain ⟨xs, hx, q⟩ := c.acc
  have hm : D ∈ (io.hide D).hid := List.mem_cons_self ..
  refine ⟨xs, hx, q.length.symm, c.gr.push (by rw [hx]; simp) (by rw [hx]; exact .lst), c.st.hset (by rw [hx]; exact .lst) hm c.out, c.out, xs ++ [yv], upd_same, ?_⟩
  exact (q.append (.cons r .nil)).mv (mv_hset (by rw [hx]; exact .lst) hm)
theorem Cd.base {D : Addr} {iob io io2 : Io} {Hb H H2 : Hp} {acc acc2 : List PV} {st st2 : Store} (c : Cd g D iob Hb acc st io H) (d : Cd g D io H acc2 st2 io2 H2) : Cd g D iob Hb acc2 st2 io2 H2 := ⟨c.gr.trans d.gr, d.st, d.out, d.acc⟩
theorem comp_loop {J : L2.It} {w : Walk} {σ : St} {vs sl : List Nat} {ρ : Env} {tm : PV → Env → M Env} {im : Env → M Bool} {el : Env → M (List PV)} {BODY : (Hp → Prop) → St → Hp → Prop} {End : Hp → Prop} {iob : Io} {Hb : Hp} {D : Addr}
    (hJ : ∃ ioJ HJ, WalkM g J w ioJ HJ ∧ ∀ io2 Hc, GrD D iob Hb io2 Hc → Mv g ioJ HJ (io2.hide D) Hc)
    (E : ERp g (iob.hide D) Hb ρ σ) (hsl : ∀ i ∈ sl, i ∈ vs)
    (hbody : ∀ (Nx : Hp → Prop) (ρ1 : Env) (σ1 : St) (sB : Store) (ys1 : List PV) (sC : Store) (acc1 : List PV) (io4 : Io) (H4 : Hp), el ρ1 sB = .ok ys1 sC → Cd g D iob Hb acc1 sB io4 H4 → ERp g (io4.hide D) H4 ρ1 σ1 → acc1.length + ys1.length ≤ sizeLine →
      (∀ io5 H5, Cd g D iob Hb (acc1 ++ ys1) sC io5 H5 → Nx H5) → BODY Nx σ1 H4)
    {acc0 : List PV} {s0 : Store} {zs : List PV} {s' : Store} (hgo : compGo w.2 (fun x => tm x (Mini.wipe ρ vs)) im el w.1 s0 = .ok zs s') (h0 : Cd g D iob Hb acc0 s0 iob Hb) (hz : (acc0 ++ zs).length ≤ sizeLine)
    (hend : ∀ io2 H, Cd g D iob Hb (acc0 ++ zs) s' io2 H → End H) :
    ∃ Wv : Nat → Nat → Hp → Prop, (∃ m, Wv 0 m Hb) ∧ ∀ i m H, Wv i m H → (J.stop i H ∧ End H) ∨ (J.go i H ∧ ∃ Nx : Hp → Prop, (∀ H', Nx H' → ∃ m', m' < m ∧ Wv (i + 1) m' H') ∧
      ∀ x H', J.yld i H x H' → tG g sl tm x (L2.wipe σ vs) H' fun σ2 H2 => L2.wipe σ2 vs = L2.wipe σ vs ∧ tT g noW im σ2 H2 fun b H3 => if b = true then BODY Nx σ2 H3 else Nx H3) := by
  obtain ⟨ioJ, HJ, hW, hmv⟩ := hJ
  obtain ⟨xb, hb, _⟩ := h0.acc
  have stob : Sto iob Hb := fun a ha => h0.st.sto a ha
  refine ⟨fun i m H => m = w.1.length - i ∧ i ≤ w.1.length ∧ ∃ io2 s2 acc ts, Cd g D iob Hb acc s2 io2 H ∧ compGo w.2 (fun x => tm x (Mini.wipe ρ vs)) im el (w.1.drop i) s2 = .ok ts s' ∧ acc0 ++ zs = acc ++ ts,
    ⟨w.1.length, by simp, Nat.zero_le _, iob, s0, acc0, zs, h0, by simpa using hgo, rfl⟩, ?_⟩
  rintro i m H ⟨rfl, hi, io2, s2, acc, ts, C, hg, hacc⟩
  have MvJ := hmv io2 H C.gr
  by_cases hlt : i < w.1.length
  · obtain ⟨p, hp⟩ : ∃ p, w.1[i]? = some p := ⟨_, List.getElem?_eq_getElem hlt⟩
    have hdrop : w.1.drop i = p :: w.1.drop (i + 1) := by
      rw [List.drop_eq_getElem_cons hlt]
      rw [List.getElem?_eq_getElem hlt] at hp
      rw [Option.some.inj hp]
    rw [hdrop] at hg
    simp only [compGo] at hg
    split at hg
    · rename_i hst
      obtain ⟨hgo', hyld⟩ := hW.go (io2.hide D) H s2 i MvJ C.st hst hlt
      refine .inr ⟨hgo', fun H' => i + 1 ≤ w.1.length ∧ ∃ io3 s3 acc' ts', Cd g D iob Hb acc' s3 io3 H' ∧ compGo w.2 (fun x => tm x (Mini.wipe ρ vs)) im el (w.1.drop (i + 1)) s3 = .ok ts' s' ∧ acc0 ++ zs = acc' ++ ts',
        fun H' ⟨h1, h2⟩ => ⟨w.1.length - (i + 1), by omega, rfl, h1, h2⟩, fun x H' hx => ?_⟩
      obtain ⟨gr1, S1, p', hp', rp⟩ := hyld x H' hx
      rw [hp] at hp'; cases hp'
      obtain ⟨io3, e3, C3⟩ := C.step gr1 S1
      have e3 : io2 = io3 := by
        have := congrArg Io.at_ e3
        have h2 := congrArg Io.hid e3
        have h9 := congrArg Io.tabs e3
        cases io2; cases io3
        simp only [Io.hide, List.cons.injEq, true_and] at this h2 h9
        rw [this, h2, h9]
      subst e3
      have E2 : ERp g (io2.hide D) H' (Mini.wipe ρ vs) (L2.wipe σ vs) := ERp.wipe (E.mv (C3.gr.mv stob hb)) vs
      cases eb : tm p (Mini.wipe ρ vs) s2 with
      | stuck => rw [eb] at hg; cases hg
      | exc _ _ => rw [eb] at hg; cases hg
      | ok ρ1 sA =>
        rw [eb] at hg
        simp only at hg
        refine ⟨io2.hide D, Mini.wipe ρ vs, s2, p, E2, C3.st, rp, ?_⟩
        rw [eb]
        intro ioA HA grA SA σ1 EA kA
        refine ⟨by rw [kA vs hsl, wipe_wipe], ?_⟩
        obtain ⟨io4, rfl, C4⟩ := C3.step grA SA
        cases et : im ρ1 sA with
        | stuck => rw [et] at hg; cases hg
        | exc _ _ => rw [et] at hg; cases hg
        | ok k sB =>
          rw [et] at hg
          refine ⟨_, ρ1, sA, EA, SA, ?_⟩
          rw [et]
          intro ioB HB grB SB
          have EB := EA.grow grB SA.sto
          obtain ⟨io5, rfl, C5⟩ := C4.step grB SB
          cases k with
          | false =>
            dsimp only
            rw [if_neg (by decide)]
            exact ⟨hlt, io5, sB, acc, ts, C5, hg, hacc⟩
          | true =>
            dsimp only
            rw [if_pos rfl]
            simp only at hg
            cases ee : el ρ1 sB with
            | stuck => rw [ee] at hg; cases hg
            | exc _ _ => rw [ee] at hg; cases hg
            | ok ys1 sC =>
              rw [ee] at hg
              simp only at hg
              cases er : compGo w.2 (fun x => tm x (Mini.wipe ρ vs)) im el (w.1.drop (i + 1)) sC with
              | stuck => rw [er] at hg; cases hg
              | exc _ _ => rw [er] at hg; cases hg
              | ok zs1 s1 =>
                rw [er] at hg
                cases hg
                refine hbody _ ρ1 σ1 sB ys1 sC acc io5 HB ee C5 EB ?_ fun io6 H6 C6 => ⟨hlt, io6, sC, _, zs1, C6, er, by rw [List.append_assoc]; exact hacc⟩
                rw [hacc] at hz
                simp only [List.length_append] at hz
                omega
    · cases hg
  · have ei : i = w.1.length := by omega
    subst ei
    rw [List.drop_length] at hg
    simp only [compGo] at hg
    split at hg
    · rename_i hst
      cases hg
      rw [List.append_nil] at hacc
      exact .inl ⟨hW.stop (io2.hide D) H _ MvJ C.st hst, hend io2 H (hacc ▸ C)⟩
    · cases hg
/-- a comprehension's list, done -/
theorem Cd.done {D : Addr} {io1 io : Io} {H1 H : Hp} {acc : List PV} {st st1 : Store} {mu : Bool} {σ : St} {Q : VK} (hD : H1 D = none) (S1 : SRp g io1 H1 st1) (c : Cd g D io1 (upd H1 D (.lst [])) acc st io H)
    (h : Ok g W σ io1 H1 (fun io' H' _ v => ∀ x, Rep g io' H' v x → Q x H') (mkLst mu acc st)) : Q (.ref D) H := by
  have gr : Gr io1 H1 io H := ⟨fun a o ha e nt => c.gr.ext a o (ne_of_none e hD) ha (by rw [upd_ne (ne_of_none e hD)]; exact e) nt, fun t => c.gr.tb ((Gr.new (io := io1) hD).tb t), fun a e => by
    have z := c.gr.live a e
    by_cases q : a = D
    · rw [q]; exact hD
    · rw [upd_ne q] at z; exact z, by
    obtain ⟨k, ek, hk⟩ := c.gr.pre
    refine ⟨k, ek, fun a ha => ?_⟩
    have z := hk a ha
    by_cases q : a = D
    · rw [q]; exact hD
    · rw [upd_ne q] at z; exact z⟩
  obtain ⟨xs, hx, r⟩ := c.acc
  unfold mkLst at h
  by_cases hz : szOk acc.length = true
  · rw [if_pos hz] at h
    cases mu with
    | false =>
      refine h io H gr c.st.bare _ (.lst ?_ hx (r.mv mv_bare))
      refine Io.not_mem.mpr ⟨c.out, ?_⟩
      rw [gr.hid]
      exact (Io.not_mem.mp (S1.fresh hD)).2
    | true =>
      exact h (io.app [D]) H (gr.adopt hD) (c.st.adopt c.out (.lst hx r)) _ (.ref (adopt_at c.st.len))
  · rw [if_neg hz] at h
    exact h.elim
end
end Mini

set_option Elab.async false
set_option linter.all false
set_option maxRecDepth 100000
/-! MiniV: isinstance, dicts made, sets asked, list(range(..)). -/
namespace Mini
open PySem L2
theorem kit_isTy (n : String) (hn : n ∈ ["NoneType", "bool", "int", "str", "tuple", "list", "dict"]) (t : Ty) : kitB n (tyS t) = some (isTy n t) := by
  simp only [List.mem_cons, List.not_mem_nil, or_false] at hn
  rcases hn with e | e | e | e | e | e | e <;> rw [e] <;> cases t <;> decide +kernel
theorem tyN_ok {g : G} {io : Io} {H : Hp} {s : Store} {v : PV} {x : V} {n : String} (S : SRp g io H s) (r : Rep g io H v x) (h : tyN s v = some n) : TyX g.K H x (.type n) ∧ n ∈ ["NoneType", "bool", "int", "str", "tuple", "list", "dict"] := by
  cases r with
  | non => cases h; exact ⟨.base .non, by decide⟩
  | bl b => cases h; exact ⟨.base (.bl b), by decide⟩
  | int i => cases h; exact ⟨.base (.int i), by decide⟩
  | str i => cases h; exact ⟨.base (.str i), by decide⟩
  | tup z q => cases h; exact ⟨.base (.tup z), by decide⟩
  | lst z y q => cases h; exact ⟨.base (.lst y), by decide⟩
  | dicK z y l q => cases h; exact ⟨.base (.dK y), by decide⟩
  | dicT z y l q => cases h; exact ⟨.base (.dT y), by decide⟩
  | ref z =>
    obtain ⟨o, h1, h2⟩ := S.find z
    simp only [tyN, h1] at h
    cases h2 with
    | lst y q => cases h; exact ⟨.base (.lst y), by decide⟩
    | dicK y l q => cases h; exact ⟨.base (.dK y), by decide⟩
    | dicT y l q => cases h; exact ⟨.base (.dT y), by decide⟩
    | ins y _ _ q => cases h
  | _ => cases h
theorem bootTy (t : Ty) : bootBuiltins (Str.ofString (tyS t)) = some (.type (tyS t)) := by cases t <;> decide +kernel
theorem tyIn (t : Ty) : Str.ofString (tyS t) ∈ bnames := by cases t <;> decide +kernel
/-- a dict is filled -/
theorem mergeK_fill {g : G} {io : Io} {H : Hp} : ∀ {ps : List (PV × PV)} {kvs : List (Key × V)} {ks : List Key} {vs : List PV} {xs : List V}, ps.map (·.1) = kvs.map (fun kv => keyP kv.1) → Reps g io H (ps.map (·.2)) (kvs.map (·.2)) → ks.length = xs.length → Reps g io H vs xs →
    ∃ (ks' : List Key) (xs' : List V), mergeK (ks.zip xs) kvs = ks'.zip xs' ∧ ks'.length = xs'.length ∧ (dfill (ks.map keyP, vs) ps).1 = ks'.map keyP ∧ Reps g io H (dfill (ks.map keyP, vs) ps).2 xs'
  | [], [], ks, vs, xs, _, _, hl, r => ⟨ks, xs, rfl, hl, rfl, r⟩
  | [], _ :: _, _, _, _, h, _, _, _ => by cases h
  | _ :: _, [], _, _, _, h, _, _, _ => by cases h
  | p :: ps, kv :: kvs, ks, vs, xs, h, q, hl, r => by
    simp only [List.map_cons, List.cons.injEq] at h
    simp only [List.map_cons] at q
    cases q with
    | cons q1 q2 =>
      obtain ⟨ks', xs', e1, e2, e3, e4⟩ := dput_val (e := keyP) (fun a b => keyP_inj) kv.1 q1 hl r
      obtain ⟨ks2, xs2, f1, f2, f3, f4⟩ := mergeK_fill (ps := ps) (kvs := kvs) h.2 q2 e2 e4
      have hd : dfill (ks.map keyP, vs) (p :: ps) = dfill (ks'.map keyP, (dput (ks.map keyP) vs (keyP kv.1) p.2).2) ps := by
        show dfill (dput (ks.map keyP) vs p.1 p.2) ps = _
        rw [h.1, ← e3]
      refine ⟨ks2, xs2, ?_, f2, by rw [hd]; exact f3, by rw [hd]; exact f4⟩
      rw [← f1, ← e1]
      rfl
theorem putAll_fill {g : G} {io : Io} {H : Hp} : ∀ {qs : List KA} {ys : List PV} {zs : List V} {ks : List (List Key)} {vs : List PV} {xs : List V}, Reps g io H ys zs → ks.length = xs.length → Reps g io H vs xs →
    ∃ (ks' : List (List Key)) (xs' : List V), putAllV (ks.zip xs) (qs.zip zs) = ks'.zip xs' ∧ ks'.length = xs'.length ∧ (dfill (ks.map keyTP, vs) ((qs.map fun q => keyTP q.1).zip ys)).1 = ks'.map keyTP ∧ Reps g io H (dfill (ks.map keyTP, vs) ((qs.map fun q => keyTP q.1).zip ys)).2 xs'
  | [], ys, zs, ks, vs, xs, _, hl, r => ⟨ks, xs, rfl, hl, rfl, r⟩
  | q :: qs, [], zs, ks, vs, xs, h, hl, r => by cases h; exact ⟨ks, xs, rfl, hl, rfl, r⟩
  | q :: qs, y :: ys, zs, ks, vs, xs, h, hl, r => by
    cases h with
    | cons h1 h2 =>
      obtain ⟨ks', xs', e1, e2, e3, e4⟩ := dput_val (e := keyTP) (fun a b => keyTP_inj) q.1 h1 hl r
      obtain ⟨ks2, xs2, f1, f2, f3, f4⟩ := putAll_fill (qs := qs) h2 e2 e4
      have hd : dfill (ks.map keyTP, vs) (((q :: qs).map fun q => keyTP q.1).zip (y :: ys)) = dfill (ks'.map keyTP, (dput (ks.map keyTP) vs (keyTP q.1) y).2) ((qs.map fun q => keyTP q.1).zip ys) := by
        show dfill (dput (ks.map keyTP) vs (keyTP q.1) y) _ = _
        rw [← e3]
        rfl
      refine ⟨ks2, xs2, ?_, f2, by rw [hd]; exact f3, by rw [hd]; exact f4⟩
      rw [← f1, ← e1]
      rfl
theorem keysT_ok {g : G} {io : Io} {H : Hp} : ∀ {xs : List PV} {zs : List V}, xs.all (keyOk true) = true → Reps g io H xs zs → ∃ qs : List KA, zs = qs.map (fun q => V.ref q.2) ∧ xs = qs.map (fun q => keyTP q.1) ∧ ∀ q ∈ qs, H q.2 = some (.tup (q.1.map kV))
  | [], _, _, .nil => ⟨[], rfl, rfl, fun q hq => by cases hq⟩
  | x :: xs, _, h, .cons r rs => by
    obtain ⟨h1, h2⟩ := Bool.and_eq_true_iff.mp (show (keyOk true x && xs.all (keyOk true)) = true from h)
    obtain ⟨qs, e1, e2, e3⟩ := keysT_ok h2 rs
    simp only [keyOk] at h1
    split at h1
    · rename_i ys
      obtain ⟨c, rfl⟩ := keyBs_ok h1
      obtain ⟨b, rfl, hb⟩ := key_t (k := c) r
      refine ⟨(c, b) :: qs, by rw [e1]; rfl, by rw [e2]; rfl, fun q hq => ?_⟩
      rcases List.mem_cons.mp hq with e | m
      · rw [e]; exact hb
      · exact e3 q m
    · cases h1
section
variable {g : G} {ct : Ct} {n : Nat} {W : WX} {X : Cx} {a b : Expr} {ma mb : Env → M PV} {pos p p2 q : Pos} {gi : List (Str × Int)}
theorem s_isi {t : Ty} (c : COk g ct n W X) (G' : GOk g gi) (hg : Gl X "isinstance") (hg2 : Gl X (Str.ofString (tyS t))) (hs : isStar a = false) (ha : PE X a (tE g W ma)) :
    PE X (.Call (.Name "isinstance" p) [a, .Name (Str.ofString (tyS t)) p2] [] pos) (tE g W fun ρ => (ma ρ).bnd fun x => M.lift (isiF t x)) := by
  have ht : PE X (.Name (Str.ofString (tyS t)) p2) (tC (.ty (tyS t))) := pe_bltn hg2 (blt_none G' c (tyIn t)) (bootTy t) (show RelV (.ty (tyS t)) (.type (tyS t)) from rfl) (by cases t <;> decide +kernel) (by cases t <;> decide +kernel)
  refine PE.wk (pe_callB (r := rIsi X.K) (call_isi) hg (blt_none G' c (by decide)) PyProof.Rows.boot_isinstance (pa_cons ha (pa_cons ht pa_nil (star_cons rfl)) (star_cons hs)) (by decide) (by decide) (star_cons hs) (by rw [star_cons rfl]; rfl)) fun σ H Q ⟨io, ρ, s, E, S, h⟩ => ?_
  refine tE_run E S h.bnd fun io1 H1 s1 x xv q1 E1 S1 h1 r1 => ?_
  obtain ⟨v, hv, hP⟩ := lift_ok h1
  obtain ⟨m, hm, rfl⟩ := Option.map_eq_some_iff.mp hv
  obtain ⟨k1, k2⟩ := tyN_ok S1 r1 hm
  exact ⟨xv, .ty (tyS t), .type m, .type (tyS t), isTy m t, rfl, .ty _, by rw [c.K]; exact k1, kit_ty (kit_isTy m k2 t), hP io1 H1 (Gr.refl _ _) S1 _ (.bl _)⟩
/-- isinstance of an error -/
theorem call_isx : CallR X (.builtin "isinstance") fun xs H Q => (∃ (c : V) (cv : Value) (a D : Addr) (d : Option Addr) (b : Bool), xs = [.ref a, c] ∧ ClsV c cv ∧ H a = some (ExO (.ref D) d a) ∧ (∀ dx, d = some dx → ∃ fs, H dx = some (.xd fs)) ∧ ExcC X.K D ∧ PySem.W.kitOne X.K (.ref D) cv = some b ∧ Q (.bl b) H) ∨ rIsi X.K xs H Q := by
  intro pins s σ H xs us Q I r h
  rcases h with h | h
  · obtain ⟨c, cv, a, D, d, b, rfl, k, hH, hdx, C, e, q⟩ := h
    obtain ⟨u1, u2, rfl, r1, r2⟩ := vals2 r
    cases (show u1 = Value.ref a from r1)
    have e2 := k.eq r2
    subst e2
    obtain ⟨⟨oe, vs, e1, z, hd⟩, _⟩ := (show ObjOk X.prog X.w H s.heap a (ExO (.ref D) d a) from I.hok a _ hH)
    obtain ⟨z1, z2⟩ := z
    have no : PySem.W.notCls oe = true := by unfold PySem.W.notCls; rw [hd]
    have J : ∃ od, PySem.W.InstAt s.heap a oe D od := by
      cases d with
      | none => exact ⟨none, e1, z1, no, by rw [z2]; trivial⟩
      | some dx =>
        obtain ⟨fs, hf⟩ := hdx dx rfl
        obtain ⟨mA, ⟨o, _, _, ho, _⟩, _⟩ := (show ObjOk X.prog X.w H s.heap dx (.xd fs) from I.hok dx _ hf)
        exact ⟨some o, e1, z1, no, by rw [z2]; exact ho⟩
    obtain ⟨od, J⟩ := J
    have hcl : (PySem.W.clsIn X.K D).isSome = true := by
      obtain ⟨cd, hc, _⟩ := PySem.W.any_some C.hd
      rw [hc]; rfl
    exact PySem.W.kia_one (PySem.W.kitx_exc hcl C.hg C.hk C.hs C.ha C.hn C.ht C.hm) I.kIn J e (fun z => nomatch z) fun tk => ⟨.bl b, H, I.tok tk, rfl, q⟩
  · exact call_isi pins s σ H xs us Q I r h
theorem s_isx {k : Str} {up : Bool} {cs : List Str} (c : COk g ct n W X) (hg : Gl X "isinstance") (hg2 : Gl X k) (hk : okN k = true) (hm : (k, up, cs) ∈ ct.er) (hs : isStar a = false) (ha : PE X a (tE g W ma)) :
    PE X (.Call (.Name "isinstance" p) [a, .Name k p2] [] pos) (tE g W fun ρ => (ma ρ).bnd fun x => M.lift fun _ => isxF k up cs x) := by
  have F := c.er _ hm
  have hk1 : (k == ("__debug__" : Str)) = false := by
    obtain ⟨n1, _⟩ := Bool.and_eq_true_iff.mp hk
    simpa using n1
  have hmi : X.mg "isinstance" = none := by rw [c.mg]; exact F.ins
  have KE : X.K = g.K := c.K
  obtain ⟨cw, cv, ht, hcv, hn, hd⟩ : ∃ (cw : V) (cv : Value), PE X (.Name k p2) (tC cw) ∧ ClsV cw cv ∧ PySem.W.kitOne X.K (.type "NoneType") cv = some false ∧ ∀ d ∈ cs, ∃ D : Addr, g.mg d = some (.ref D) ∧ ExcC X.K D ∧ PySem.W.kitOne X.K (.ref D) cv = some (up || decide (d = k)) := by
    rw [KE]
    rcases F.val with ⟨C, h1, h2, h3⟩ | ⟨h1, h2, h3, h4⟩
    · exact ⟨.ref C, .ref C, pe_glob hg2 (by rw [c.mg]; exact h1) rfl hk1, .own C, h2, h3⟩
    · have h2 : k = "ValueError" := h2
      have h3 : up = true := h3
      subst h2 h3
      exact ⟨.ty "ValueError", .type "ValueError", pe_bltn hg2 (by rw [c.mg]; exact h1) (by first | exact PyProof.Rows.boot_ValueError | rfl | kernel_rfl) (show RelV (.ty "ValueError") (.type "ValueError") from rfl), .ty _, kit_ty (by decide +kernel), h4⟩
  refine PE.wk (pe_callB call_isx hg hmi PyProof.Rows.boot_isinstance (pa_cons ha (pa_cons ht pa_nil (star_cons rfl)) (star_cons hs)) (by decide) (by decide) (star_cons hs) (by rw [star_cons rfl]; rfl)) fun σ H Q ⟨io, ρ, s, E, S, h⟩ => ?_
  refine tE_run E S h.bnd fun io1 H1 s1 x xv q1 E1 S1 h1 r1 => ?_
  obtain ⟨v, hv, hP⟩ := lift_ok h1
  unfold isxF at hv
  split at hv
  · cases hv
    cases r1
    exact .inr ⟨.non, cw, .type "NoneType", cv, false, rfl, hcv, .base .non, hn, hP io1 H1 (Gr.refl _ _) S1 _ (.bl _)⟩
  · rename_i d ns vs
    split at hv
    · rename_i hdc
      cases hv
      obtain ⟨D, hD, hC, hkit⟩ := hd d (of_decide_eq_true hdc)
      have fin := hP io1 H1 (Gr.refl _ _) S1 _ (.bl (up || decide (d = k)))
      cases r1 with
      | exn0 h1 h2 h3 =>
        rw [hD] at h3
        cases h3
        exact .inl ⟨cw, cv, _, D, none, _, rfl, hcv, h2, (fun dx z => by cases z), hC, hkit, fin⟩
      | exn h1 h2 h3 h4 h5 h6 h7 =>
        rw [hD] at h6
        cases h6
        exact .inl ⟨cw, cv, _, D, some _, _, rfl, hcv, h3, (fun dx z => by cases z; exact ⟨_, h4⟩), hC, hkit, fin⟩
    · cases hv
  · cases hv
/-- a dict that has been laid -/
theorem mkDic_ok {σ : St} {io1 io : Io} {H1 H : Hp} {st st1 : Store} {D : Addr} {mu t : Bool} {d : List PV × List PV} {Q : VK} (S1 : SRp g io1 H1 st1) (hD : H1 D = none) (gr : Gr io1 H1 io H) (S : SRp g (io.hide D) H st) (out : D ∉ io.at_)
    (r : ORep g (io.hide D) H D (.dic t d.1 d.2)) (h : Ok g W σ io1 H1 (fun io' H' _ v => ∀ x, Rep g io' H' v x → Q x H') (mkDic mu t d st)) : Q (.ref D) H := by
  unfold mkDic at h
  cases mu with
  | true =>
    rw [if_pos rfl] at h
    exact h (io.app [D]) H (gr.adopt hD) (S.adopt out r) _ (.ref (adopt_at S.len))
  | false =>
    rw [if_neg (by decide)] at h
    have no : D ∉ io := Io.not_mem.mpr ⟨out, by rw [gr.hid]; exact (Io.not_mem.mp (S1.fresh hD)).2⟩
    refine h io H gr S.bare _ ?_
    have r2 : ORep g io H D (.dic t d.1 d.2) := r.mv mv_bare rfl
    generalize hd : SO.dic t d.1 d.2 = o at r2
    cases r2 with
    | lst _ _ => cases hd
    | ins _ _ _ _ => cases hd
    | dicK z l q =>
      injection hd with e1 e2 e3
      rw [e1, e2, e3]
      exact .dicK no z l q
    | dicT z l q =>
      injection hd with e1 e2 e3
      rw [e1, e2, e3]
      exact .dicT no z l q
theorem mkDic_new {σ : St} {io : Io} {H : Hp} {st : Store} {D : Addr} {mu t : Bool} {d : List PV × List PV} {Q : VK} {o : HO} (S : SRp g io H st) (hD : H D = none) (r : ORep g (io.hide D) (upd H D o) D (.dic t d.1 d.2))
    (h : Ok g W σ io H (fun io' H' _ v => ∀ x, Rep g io' H' v x → Q x H') (mkDic mu t d st)) : Q (.ref D) (upd H D o) :=
  mkDic_ok S hD (Gr.new hD) (S.hide hD) (Io.not_mem.mp (S.fresh hD)).1 r h
theorem s_dnew {mu t : Bool} : PE X (.Dict [] [] pos) (tE g W fun _ => mkDic mu t ([], [])) := by
  cases t with
  | false => exact PE.wk pe_dnewK fun σ H Q ⟨io, ρ, s, E, S, h⟩ p hp => mkDic_new S hp (.dicK (ks := []) (xs := []) upd_same rfl .nil) h
  | true => exact PE.wk pe_dnewT fun σ H Q ⟨io, ρ, s, E, S, h⟩ p hp => mkDic_new S hp (.dicT (ks := []) (xs := []) upd_same rfl .nil) h
theorem s_dzip {mu : Bool} (c : COk g ct n W X) (G' : GOk g gi) (hg : Gl X "dict") (hg2 : Gl X "zip") (n1 : isStar a = false) (n2 : isStar b = false) (ha : PE X a (tE g W ma)) (hb : PE X b (tE g W mb)) :
    PE X (.Call (.Name "dict" p) [.Call (.Name "zip" p2) [a, b] [] q] [] pos) (tE g W fun ρ => (ma ρ).bnd fun x => (mb ρ).bnd fun y => (M.lift (dzipF x y)).bnd fun d => mkDic mu true d) := by
  refine PE.wk (pe_dzip c.calm (by have := units_of c; omega) hg (blt_none G' c (by decide)) hg2 (blt_none G' c (by decide)) (a_two n1 n2 ha hb) n1 n2) fun σ H Q ⟨io, ρ, s, E, S, h⟩ => ?_
  refine tE_run E S h.bnd fun io1 H1 s1 x xv q1 E1 S1 h1 r1 => ?_
  refine tE_run E1 S1 h1.bnd fun io2 H2 s2 y yv q2 E2 S2 h2 r2 => ?_
  obtain ⟨d, hd, hP⟩ := lift_ok h2.bnd
  have fin := hP io2 H2 (Gr.refl _ _) S2
  obtain ⟨xs, e1, hd⟩ := Option.bind_eq_some_iff.mp hd
  obtain ⟨ys, e2, hd⟩ := Option.bind_eq_some_iff.mp hd
  split at hd
  · rename_i hk
    cases hd
    obtain ⟨u1, k1, rfl, l1⟩ := seq_later S2 (r1.grow q2 S1.sto) e1
    obtain ⟨u2, k2, rfl, l2⟩ := seq_later S2 r2 e2
    obtain ⟨us, hs1, rs1⟩ := l1 io2 H2 s2 (Mv.refl _ _ _) S2 (stays_watch e1)
    obtain ⟨vs, hs2, rs2⟩ := l2 io2 H2 s2 (Mv.refl _ _ _) S2 (stays_watch e2)
    obtain ⟨qs, z1, z2, z3⟩ := keysT_ok hk rs1
    subst z1 z2
    refine ⟨k1, k2, u1, u2, qs, vs, rfl, by rw [c.K]; exact hs1, by rw [c.K]; exact hs2, z3, fun D hD => ?_⟩
    refine mkDic_new S2 hD ?_ fin
    obtain ⟨ks', xs', f1, f2, f3, f4⟩ := putAll_fill (qs := qs) (ks := []) (vs := []) (xs := []) (rs2.mv (mv_hide (o := .dT (putAllV [] (qs.zip vs))) hD)) rfl .nil
    have f1 : putAllV [] (qs.zip vs) = ks'.zip xs' := f1
    rw [f1] at f4 ⊢
    have f3 : (dfill ([], []) ((qs.map fun q => keyTP q.1).zip ys)).1 = ks'.map keyTP := f3
    rw [f3]
    exact .dicT upd_same f2 f4
  · cases hd

/-! ### displays -/
def trsOf (g : G) (W : WX) (Φ : Str → List PV → M PV) : Es → List (TE × TE)
  | .cons k (.cons v r) => (tE g W (evE Φ k), tE g W (evE Φ v)) :: trsOf g W Φ r
  | _ => []
def evenEs : Es → Bool
  | .nil => true
  | .cons _ (.cons _ r) => evenEs r
  | _ => false
def PR (g : G) (io : Io) (H : Hp) (ps : List (PV × PV)) (xs : List (V × V)) : Prop := Reps g io H (ps.map (·.1)) (xs.map (·.1)) ∧ Reps g io H (ps.map (·.2)) (xs.map (·.2))
theorem pairs_run {Φ : Str → List PV → M PV} {σ : St} {ρ : Env} : ∀ (es : Es) {io : Io} {H : Hp} {s : Store} {Q : List (V × V) → Hp → Prop}, evenEs es = true → ERp g io H ρ σ → SRp g io H s →
    Ok g W σ io H (fun io' H' _ vs => ∀ xs : List (V × V), PR g io' H' (pairUp vs) xs → Q xs H') (evEs Φ es ρ s) → tPairs (trsOf g W Φ es) σ H Q
  | .nil, io, H, s, Q, _, E, S, h => Ok.ret h S [] ⟨.nil, .nil⟩
  | .cons k (.cons v r), io, H, s, Q, he, E, S, h => by
    simp only [evEs] at h
    refine tE_run E S (Ok.bnd h) fun io1 H1 s1 x xv q1 E1 S1 h1 r1 => ?_
    refine tE_run E1 S1 (Ok.bnd (Ok.bnd h1)) fun io2 H2 s2 y yv q2 E2 S2 h2 r2 => ?_
    have h3 := Ok.bnd h2
    refine pairs_run r he E2 S2 (h3.imp fun io' H' s' vs gr S' h4 xs hp => ?_)
    have h5 := Ok.ret (Ok.ret h4 S') S'
    exact h5 ((xv, yv) :: xs) ⟨.cons ((r1.grow q2 S1.sto).grow gr S2.sto) hp.1, .cons (r2.grow gr S2.sto) hp.2⟩
  | .cons _ .nil, _, _, _, _, he, _, _, _ => by cases he
theorem gr_hidden {io io' : Io} {H H' : Hp} {D : Addr} {o : HO} (hD : H D = none) (gr : Gr (io.hide D) (upd H D o) io' H') : ∃ io2, io' = io2.hide D ∧ Gr io H io2 H' := by
  obtain ⟨io2, e, k⟩ := gr.unhide
  refine ⟨io2, e, fun a u ha hu nt => k.ext a u (ne_of_none hu hD) ha (by rw [upd_ne (ne_of_none hu hD)]; exact hu) nt, fun t => k.tb ((Gr.new (io := io) hD).tb t), fun a ha => ?_, ?_⟩
  · have z := k.live a ha
    by_cases q : a = D
    · rw [q]; exact hD
    · rw [upd_ne q] at z; exact z
  · obtain ⟨n, en, hn⟩ := k.pre
    refine ⟨n, en, fun a ha => ?_⟩
    have z := hn a ha
    by_cases q : a = D
    · rw [q]; exact hD
    · rw [upd_ne q] at z; exact z
theorem keys_ok {io : Io} {H : Hp} : ∀ {ps : List (PV × PV)} {xs : List (V × V)}, ps.all (fun p => keyB p.1) = true → Reps g io H (ps.map (·.1)) (xs.map (·.1)) → ∃ kvs : List (Key × V), xs = kvs.map (fun kv => (kV kv.1, kv.2)) ∧ ps.map (·.1) = kvs.map (fun kv => keyP kv.1) ∧ kvs.map (·.2) = xs.map (·.2)
  | [], [], _, _ => ⟨[], rfl, rfl, rfl⟩
  | [], _ :: _, _, r => by cases r
  | _ :: _, [], _, r => by cases r
  | p :: ps, x :: xs, h, r => by
    simp only [List.map_cons] at r
    cases r with
    | cons r1 r2 =>
      obtain ⟨h1, h2⟩ := Bool.and_eq_true_iff.mp (show (keyB p.1 && ps.all fun p => keyB p.1) = true from h)
      obtain ⟨c, e⟩ := keyB_ok h1
      obtain ⟨kvs, e1, e2, e3⟩ := keys_ok h2 r2
      rw [e] at r1
      have ex := key_k r1
      refine ⟨(c, x.2) :: kvs, ?_, ?_, ?_⟩
      · rw [List.map_cons, ← e1, ← ex]
      · rw [List.map_cons, List.map_cons, e2, e]
      · rw [List.map_cons, List.map_cons, e3]
theorem s_dict {mu : Bool} {ks : List (Option Expr)} {vs : List Expr} {es : Es} {Φ : Str → List PV → M PV} (hp : PPs X pos ks vs (trsOf g W Φ es)) (he : evenEs es = true) (ha : ks.all (·.isSome) = true) (hl : ks.length = vs.length) (h0 : ks ≠ []) (h15 : ks.length ≤ 15) :
    PE X (.Dict ks vs pos) (tE g W fun ρ => (evEs Φ es ρ).bnd fun vs => if (pairUp vs).all (fun p => keyB p.1) && decide ((pairUp vs).length ≤ 15) then mkDic mu false (dfill ([], []) (pairUp vs)) else M.stuck) := by
  refine PE.wk (pe_disp hp ha hl h0 h15) fun σ H Q ⟨io, ρ, s, E, S, h⟩ D hD => ?_
  have S1 := S.hide (o := .dK []) hD
  have E1 := E.mv (mv_hide (o := .dK []) hD)
  simp only [M.bnd] at h
  cases e : evEs Φ es ρ s with
  | stuck => rw [e] at h; exact h.elim
  | exc x s1 =>
    rw [e] at h
    refine pairs_run es he E1 S1 ?_
    rw [e]
    intro io' H' cls d gr S' X'
    obtain ⟨io2, rfl, g2⟩ := gr_hidden hD gr
    exact h io2 H' cls d g2 S'.bare (X'.mv mv_bare)
  | ok us s1 =>
    rw [e] at h
    simp only at h
    refine pairs_run es he E1 S1 ?_
    rw [e]
    intro io' H' gr S' xs ⟨p1, p2⟩
    obtain ⟨io2, rfl, g2⟩ := gr_hidden hD gr
    have out : D ∉ (io.hide D).at_ := (Io.not_mem.mp (S.fresh hD)).1
    have hHD : H' D = some (.dK []) := gr.ext D _ out upd_same
    have out2 : D ∉ io2.at_ := gr.outS out upd_same
    by_cases hk : ((pairUp us).all (fun p => keyB p.1) && decide ((pairUp us).length ≤ 15)) = true
    · rw [if_pos hk] at h
      obtain ⟨k1, k2⟩ := Bool.and_eq_true_iff.mp hk
      obtain ⟨kvs, e1, e2, e3⟩ := keys_ok k1 p1
      have hm : D ∈ (io2.hide D).hid := List.mem_cons_self ..
      have nt : Plain (H' D) := by rw [hHD]; exact .dK
      refine ⟨hHD, kvs, e1, ?_, ?_⟩
      · have := congrArg List.length e2
        rw [List.length_map, List.length_map] at this
        have := of_decide_eq_true k2
        omega
      · rw [← e3] at p2
        obtain ⟨ks', xs', f1, f2, f3, f4⟩ := mergeK_fill (ks := []) (vs := []) (xs := []) e2 p2 rfl .nil
        have f1 : mergeK [] kvs = ks'.zip xs' := f1
        have f3 : (dfill ([], []) (pairUp us)).1 = ks'.map keyP := f3
        rw [f1]
        have g3 : Gr io H io2 (upd H' D (.dK (ks'.zip xs'))) := ⟨fun a u ha hu ntu => by rw [upd_ne (ne_of_none hu hD)]; exact g2.ext a u ha hu ntu, fun t => tabs_upd nt (g2.tb t), fun a ha => by
          by_cases q : a = D
          · rw [q]; exact hD
          · rw [upd_ne q] at ha; exact g2.live a ha, g2.pre⟩
        refine mkDic_ok S hD g3 (S'.hset nt hm out2) out2 ?_ h
        rw [f3]
        exact .dicK upd_same f2 (f4.mv (mv_hset nt hm))
    · rw [if_neg hk] at h; exact h.elim

/-! ### sets of ints -/
theorem ddI_mem {x : Int} : ∀ {l : List Int}, x ∈ ddI l ↔ x ∈ l
  | [] => Iff.rfl
  | y :: r => by
    unfold ddI
    split
    · rename_i h
      have h : y ∈ r := by simpa using h
      rw [ddI_mem, List.mem_cons]
      exact ⟨.inr, fun z => z.elim (fun e => e ▸ h) id⟩
    · rw [List.mem_cons, List.mem_cons, ddI_mem]
theorem ddI_nodup : ∀ l : List Int, (ddI l).Nodup
  | [] => List.nodup_nil
  | y :: r => by
    unfold ddI
    split
    · exact ddI_nodup r
    · rename_i h
      exact List.nodup_cons.mpr ⟨fun z => h (by simpa using ddI_mem.mp z), ddI_nodup r⟩
theorem nodup_len {a b : List Int} (ha : a.Nodup) (hb : b.Nodup) (h : ∀ x, x ∈ a ↔ x ∈ b) : a.length = b.length := ((List.perm_ext_iff_of_nodup ha hb).mpr fun x => h x).length_eq
theorem setR_len {w : World} {hp : Heap} {l : Addr} {ns : List Int} {k : Nat} (R : SetR w hp l (fun j => decide (j ∈ ns)) k) : k = (ddI ns).length := by
  obtain ⟨o, es, ep, t, _, _, _, _, nd, mem, _, _, hn, _, _⟩ := R
  rw [← hn]
  have := nodup_len nd (ddI_nodup ns) fun x => by rw [← mem x, ddI_mem]; exact decide_eq_true_iff
  rw [← this, List.length_map, Array.length_toList]
def SqE (K : PySem.W.Frag) (H : Hp) (l : Addr) (ns : List Int) : Prop := SqL K H l (ns.map V.int) ∨ SqT K H l (ns.map V.int)
theorem set_sq {pins : List (Addr × Obj)} {σ : St} {H : Hp} {s : Shared} {l : Addr} {ns : List Int} {Q : Value → Shared → Prop} (hc : X.calm = true) (I : L2.Inv X pins σ H s) (h : SqE X.K H l ns) (hb : ns.length + 1 < 4096)
    (k : ∀ (h' : Heap) (tk : Nat), SetR X.w h' s.heap.objs.size (fun j => decide (j ∈ ns)) (ddI ns).length → (∀ b o, s.heap.get? b = some o → h'.get? b = some o) → Q (.ref s.heap.objs.size) { s with heap := h', toks := tk }) :
    wpAny (model X.prog X.w) X.A (call (.type "set") [.ref l]) Q X.xe s := by
  rcases h with h | h
  · obtain ⟨its, r, pl, _⟩ := I.list h
    exact call_set_lstI ns (I.ok.hd hc) pl.isList (by simpa using r.ints) (by unfold scanBound; omega) fun h' tk c R _ hk => k h' tk (by rw [← setR_len R]; exact R) hk
  · obtain ⟨its, r, pl, _⟩ := I.tuple h
    exact call_set_tupI ns (I.ok.hd hc) pl (by simpa using r.ints) (by unfold scanBound; omega) fun h' tk c R _ hk => k h' tk (by rw [← setR_len R]; exact R) hk
def tLs (K : PySem.W.Frag) (ta : TE) : TE := fun σ H Q => ta σ H fun x H1 => ∃ l ns, x = .ref l ∧ SqE K H1 l ns ∧ ns.length + 1 < 4096 ∧ Q (.int ((ddI ns).length : Nat)) H1
theorem pe_lset {ta : TE} (hc : X.calm = true) (hg : Gl X "len") (hm : X.mg "len" = none) (hg2 : Gl X "set") (hm2 : X.mg "set" = none) (ha : PE X a ta) (hs : isStar a = false) : PE X (.Call (.Name "len" p) [.Call (.Name "set" p2) [a] [] q] [] pos) (tLs X.K ta) := by
  refine ⟨fun pins s σ H Q I h => ?_⟩
  refine PyProof.Rows.Call_ (ld_blt I hg hm PySem.boot_len (PyProof.Rows.callWith_builtin1 (PyProof.Rows.args_cons ?_ rfl) rfl rfl))
  refine PyProof.Rows.Call_ (ld_blt I hg2 hm2 PyProof.Rows.boot_set (PyProof.Rows.callWith_type1 (PyProof.Rows.args_cons (thn (ha.run pins s σ H _ I h) fun v s1 ⟨x, H1, I1, r1, q1⟩ => PyProof.Rows.args_nil ?_) (star_cons hs)) (star_cons hs) rfl))
  obtain ⟨l, ns, rfl, hq, hb, q1⟩ := q1
  cases r1
  refine set_sq hc I1 hq hb fun h' tk R hk => PyProof.Rows.args_nil ?_
  obtain ⟨o, es, ep, t, ho, hex, hd, _, _, _, hlt, hf, hn, _⟩ := R
  have I2 : L2.Inv X pins σ H1 { s1 with heap := h', toks := tk } := I1.kept hk
  exact call_len_set ho hex hd hf (by unfold scanBound at hlt; omega) ⟨.int ((ddI ns).length : Nat), H1, I2.tok _, ⟨_, by rw [hn]⟩, q1⟩
def tSs (K : PySem.W.Frag) (ta : TE) : TE := fun σ H Q => ta σ H fun x H1 => ∃ l ns, x = .ref l ∧ SqE K H1 l ns ∧ ns.length < 64 ∧ ∀ p, H1 p = none → Q (.ref p) (upd H1 p (.lst ((sortI (ddI ns)).map V.int)))
theorem sorted_lt : ∀ {l : List Int}, l.Pairwise (· < ·) → l.Pairwise (· ≤ ·) := fun h => h.imp fun z => Int.le_of_lt z
theorem pe_sset {ta : TE} (hc : X.calm = true) (hg : Gl X "sorted") (hm : X.mg "sorted" = none) (hg2 : Gl X "set") (hm2 : X.mg "set" = none) (ha : PE X a ta) (hs : isStar a = false) : PE X (.Call (.Name "sorted" p) [.Call (.Name "set" p2) [a] [] q] [] pos) (tSs X.K ta) := by
  refine ⟨fun pins s σ H Q I h => ?_⟩
  refine PyProof.Rows.Call_ (ld_blt I hg hm (biBoot .sorted) (PyProof.Rows.callWith_builtin1 (PyProof.Rows.args_cons ?_ rfl) rfl rfl))
  refine PyProof.Rows.Call_ (ld_blt I hg2 hm2 PyProof.Rows.boot_set (PyProof.Rows.callWith_type1 (PyProof.Rows.args_cons (thn (ha.run pins s σ H _ I h) fun v s1 ⟨x, H1, I1, r1, q1⟩ => PyProof.Rows.args_nil ?_) (star_cons hs)) (star_cons hs) rfl))
  obtain ⟨l, ns, rfl, hq, hb, q1⟩ := q1
  cases r1
  have hdl : (ddI ns).length ≤ ns.length := by
    have : ∀ l : List Int, (ddI l).length ≤ l.length := fun l => by
      induction l with
      | nil => exact Nat.le_refl _
      | cons x r ih =>
        unfold ddI
        split
        · exact Nat.le_succ_of_le ih
        · exact Nat.succ_le_succ ih
    exact this ns
  refine set_sq hc I1 hq (by omega) fun h' tk R hk => PyProof.Rows.args_nil ?_
  have I2 : L2.Inv X pins σ H1 { s1 with heap := h', toks := tk } := I1.kept hk
  refine sorted_set R (I1.ok.hd hc) (by omega) fun s' u out c ms k2 eg eo hsz ho hi hs hmem hlen => ?_
  have em : ms = sortI (ddI ns) := by
    refine sortI_is ?_ (sorted_lt hs)
    exact (List.perm_ext_iff_of_nodup (hs.imp fun z => Int.ne_of_lt z) (ddI_nodup ns)).mpr fun x => by rw [hmem, ddI_mem]; exact decide_eq_true_iff
  have hn : H1 u = none := I2.hok.fresh hsz
  have hlen' : ((sortI (ddI ns)).map V.int).length ≤ sizeLine := by rw [List.length_map, ← em, hlen, sizeLine_eq]; omega
  have hv := vals_of_ints hi
  rw [em] at hv
  have J : L2.Inv X pins σ (upd H1 u (.lst ((sortI (ddI ns)).map V.int))) { s1 with heap := s'.heap, gens := s'.gens, drawn := s'.drawn, toks := s'.toks } :=
    Inv.call (s := { s1 with heap := h', toks := tk }) (ch := []) I2 (Un.laid k2 hsz hn) (I2.hok.laid k2 hsz ⟨hlen', out.toList, c, hv, ho⟩) (by rw [eg]; exact I2.bare) (fun _ z => nomatch z)
  have e : s' = { s1 with heap := s'.heap, gens := s'.gens, drawn := s'.drawn, toks := s'.toks } := by
    cases s'
    cases s1
    cases eo
    rfl
  rw [e]
  exact ⟨.ref u, _, J, rfl, q1 u hn⟩
theorem seqI_ok {io : Io} {H : Hp} {s : Store} {x : PV} {xv : V} {ns : List Int} (S : SRp g io H s) (r : Rep g io H x xv) (h : seqI s x = some ns) : ∃ l, xv = .ref l ∧ SqE g.K H l ns := by
  obtain ⟨ps, e1, e2⟩ := Option.bind_eq_some_iff.mp h
  obtain ⟨l, xs, rfl, hs, hr⟩ := rep_seq S r e1
  rw [intsOf_ok hr e2] at hs
  exact ⟨l, rfl, hs.imp id SqT.of⟩
theorem s_lset (c : COk g ct n W X) (G' : GOk g gi) (hg : Gl X "len") (hg2 : Gl X "set") (hs : isStar a = false) (ha : PE X a (tE g W ma)) :
    PE X (.Call (.Name "len" p) [.Call (.Name "set" p2) [a] [] q] [] pos) (tE g W fun ρ => (ma ρ).bnd fun x => M.lift (lsetF x)) := by
  refine PE.wk (pe_lset c.calm hg (blt_none G' c (by decide)) hg2 (blt_none G' c (by decide)) ha hs) fun σ H Q ⟨io, ρ, s, E, S, h⟩ => ?_
  refine tE_run E S h.bnd fun io1 H1 s1 x xv q1 E1 S1 h1 r1 => ?_
  obtain ⟨v, hv, hP⟩ := lift_ok h1
  obtain ⟨ns, e1, hv⟩ := Option.bind_eq_some_iff.mp hv
  split at hv
  · rename_i hb
    cases hv
    obtain ⟨l, rfl, hq⟩ := seqI_ok S1 r1 e1
    exact ⟨l, ns, rfl, by rw [c.K]; exact hq, of_decide_eq_true hb, hP io1 H1 (Gr.refl _ _) S1 _ (.int _)⟩
  · cases hv
theorem s_sset (c : COk g ct n W X) (G' : GOk g gi) (hg : Gl X "sorted") (hg2 : Gl X "set") (hs : isStar a = false) (ha : PE X a (tE g W ma)) :
    PE X (.Call (.Name "sorted" p) [.Call (.Name "set" p2) [a] [] q] [] pos) (tE g W fun ρ => (ma ρ).bnd fun x => M.lift (ssetF x)) := by
  refine PE.wk (pe_sset c.calm hg (blt_none G' c (by decide)) hg2 (blt_none G' c (by decide)) ha hs) fun σ H Q ⟨io, ρ, s, E, S, h⟩ => ?_
  refine tE_run E S h.bnd fun io1 H1 s1 x xv q1 E1 S1 h1 r1 => ?_
  obtain ⟨v, hv, hP⟩ := lift_ok h1
  obtain ⟨ns, e1, hv⟩ := Option.bind_eq_some_iff.mp hv
  split at hv
  · rename_i hb
    cases hv
    obtain ⟨l, rfl, hq⟩ := seqI_ok S1 r1 e1
    refine ⟨l, ns, rfl, by rw [c.K]; exact hq, of_decide_eq_true hb, fun u hu => ?_⟩
    have gr : Gr io1 H1 io1 (upd H1 u (.lst ((sortI (ddI ns)).map V.int))) := Gr.new hu
    exact hP io1 _ gr (S1.new hu) _ (.lst (S1.fresh hu) upd_same (ints_reps _))
  · cases hv
/-! ### list(range(..)) -/
theorem rgInts (i j : Int) : L2.rgV i j = ((List.range (j - i).toNat).map fun k : Nat => i + (k : Int)).map V.int := by unfold L2.rgV; rw [List.map_map]; rfl
theorem rgPs (i j : Int) : ((List.range (j - i).toNat).map fun k => PV.int (i + (k : Nat))) = ((List.range (j - i).toNat).map fun k : Nat => i + (k : Int)).map PV.int := by rw [List.map_map]; rfl
theorem rg_reps {io : Io} {H : Hp} (i j : Int) : Reps g io H ((List.range (j - i).toNat).map fun k => PV.int (i + (k : Nat))) (L2.rgV i j) := by rw [rgInts, rgPs]; exact ints_reps _
theorem rgOk_ok {i j : Int} (h : rgOk i j = true) : RgOk i j := by
  have h := of_decide_eq_true h
  exact h
theorem mkRg_l {σ : St} {io : Io} {H : Hp} {s : Store} {k : Nat} {i j : Int} {Q : VK} (S : SRp g io H s) (hk : k < 2) (h : Ok g W σ io H (fun io' H' _ v => ∀ x, Rep g io' H' v x → Q x H') (mkRg k i j s)) :
    RgOk i j ∧ ∀ u, H u = none → Q (.ref u) (upd H u (.lst (L2.rgV i j))) := by
  unfold mkRg at h
  by_cases hr : rgOk i j = true
  · rw [if_pos hr] at h
    have ok : RgOk i j := rgOk_ok hr
    refine ⟨ok, (mkLst_ok (W := W) (σ := σ) (mu := decide (k = 1)) S (rg_reps i j) ?_).2⟩
    have hz : szOk ((List.range (j - i).toNat).map fun k => PV.int (i + (k : Nat))).length = true := by
      rw [List.length_map, List.length_range, szOk_iff, sizeLine_eq]
      have := ok.2.2.2.2
      omega
    unfold mkLst
    rw [if_pos hz]
    match k, hk, h with
    | 0, _, h => exact h
    | 1, _, h => exact h
  · rw [if_neg hr] at h; exact h.elim
theorem mkRg_t {σ : St} {io : Io} {H : Hp} {s : Store} {k : Nat} {i j : Int} {Q : VK} (S : SRp g io H s) (hk : ¬ k < 2) (h : Ok g W σ io H (fun io' H' _ v => ∀ x, Rep g io' H' v x → Q x H') (mkRg k i j s)) :
    RgOk i j ∧ ∀ u, H u = none → Q (.ref u) (upd H u (.tup (L2.rgV i j))) := by
  unfold mkRg at h
  by_cases hr : rgOk i j = true
  · rw [if_pos hr] at h
    refine ⟨rgOk_ok hr, fun u hu => ?_⟩
    have gr : Gr io H io (upd H u (.tup (L2.rgV i j))) := Gr.new hu
    match k, hk, h with
    | k + 2, _, h => exact h io _ gr (S.new hu) _ (.tup upd_same (rg_reps i j))
  · rw [if_neg hr] at h; exact h.elim
theorem s_rgE {e : Expr} {k : Nat} {te : St → Hp → (Int → Int → Hp → Prop) → Prop} {m : Env → M PV} {nm : Str} (c : COk g ct n W X) (G' : GOk g gi) (hn : nm = if k < 2 then "list" else "tuple") (hg : Gl X nm) (hs : isStar e = false) (he : PRg X e te)
    (lead : ∀ (σ : St) (H : Hp) (Q : VK), tE g W m σ H Q → ∀ Q' : Int → Int → Hp → Prop, (∀ i j H1 io s, SRp g io H1 s → Ok g W σ io H1 (fun io' H' _ v => ∀ x, Rep g io' H' v x → Q x H') (mkRg k i j s) → Q' i j H1) → te σ H Q') :
    PE X (.Call (.Name nm p) [e] [] pos) (tE g W m) := by
  by_cases hk : k < 2
  · rw [if_pos hk] at hn
    subst hn
    exact PE.wk (pe_listRg c.calm hg (blt_none G' c (by decide)) he (star_cons hs)) fun σ H Q h => lead σ H Q h _ fun i j H1 io s S h => mkRg_l S hk h
  · rw [if_neg hk] at hn
    subst hn
    exact PE.wk (pe_tupRg c.calm hg (blt_none G' c (by decide)) he (star_cons hs)) fun σ H Q h => lead σ H Q h _ fun i j H1 io s S h => mkRg_t S hk h
theorem s_rgl {k : Nat} {nm : Str} (c : COk g ct n W X) (G' : GOk g gi) (hn : nm = if k < 2 then "list" else "tuple") (hg : Gl X nm) (hg2 : Gl X "range") (hs : isStar a = false) (ha : PE X a (tE g W ma)) :
    PE X (.Call (.Name nm p) [.Call (.Name "range" p2) [a] [] q] [] pos) (tE g W fun ρ => (ma ρ).bnd fun y => (M.opt (intV y)).bnd fun j => mkRg k 0 j) := by
  refine s_rgE c G' hn hg rfl (prg_1 hg2 (blt_none G' c (by decide)) ha (star_cons hs)) (fun σ H Q ⟨io, ρ, s, E, S, h⟩ Q' hQ => ?_)
  refine tE_run E S h.bnd fun io1 H1 s1 x xv q1 E1 S1 h1 r1 => ?_
  obtain ⟨j, hj, hP⟩ := opt_ok h1.bnd
  have e := intV_ok hj
  subst e
  cases r1
  exact ⟨j, rfl, hQ _ _ _ _ _ S1 (hP io1 H1 (Gr.refl _ _) S1)⟩
theorem s_rgl2 {k : Nat} {nm : Str} (c : COk g ct n W X) (G' : GOk g gi) (hn : nm = if k < 2 then "list" else "tuple") (hg : Gl X nm) (hg2 : Gl X "range") (hs : isStar a = false) (hs2 : isStar b = false) (ha : PE X a (tE g W ma)) (hb : PE X b (tE g W mb)) :
    PE X (.Call (.Name nm p) [.Call (.Name "range" p2) [a, b] [] q] [] pos) (tE g W fun ρ => (ma ρ).bnd fun x => (mb ρ).bnd fun y => (M.opt (intV x)).bnd fun i => (M.opt (intV y)).bnd fun j => mkRg k i j) := by
  refine s_rgE c G' hn hg rfl (prg_2 hg2 (blt_none G' c (by decide)) ha hb (star_cons hs) (star_cons hs2) (by rw [star_cons hs2]; rfl)) (fun σ H Q ⟨io, ρ, s, E, S, h⟩ Q' hQ => ?_)
  refine tE_run E S h.bnd fun io1 H1 s1 x xv q1 E1 S1 h1 r1 => ?_
  refine tE_run E1 S1 h1.bnd fun io2 H2 s2 y yv q2 E2 S2 h2 r2 => ?_
  obtain ⟨i, hi, hP⟩ := opt_ok h2.bnd
  have e := intV_ok hi
  subst e
  obtain ⟨j, hj, hP'⟩ := opt_ok (hP io2 H2 (Gr.refl _ _) S2).bnd
  have e := intV_ok hj
  subst e
  cases r1
  cases r2
  exact ⟨i, j, rfl, rfl, hQ _ _ _ _ _ S2 (hP' io2 H2 (Gr.refl _ _) S2)⟩
theorem own_ok {σ : St} {io : Io} {H : Hp} {s : Store} {xs : List PV} {ys : List V} {Q : VK} (S : SRp g io H s) (h : Ok g W σ io H (fun io' H' _ v => ∀ x, Rep g io' H' v x → Q x H') (alloc (.lst xs) s)) (r : Reps g io H xs ys) (u : Addr) (hu : H u = none) :
    Q (.ref u) (upd H u (.lst ys)) := by
  have gr : Gr io H (io.app [u]) (upd H u (.lst ys)) := Gr.newS hu
  refine h (io.app [u]) _ gr (S.newS hu (.lst upd_same (r.grow gr S.sto))) _ (.ref ?_)
  show (io.at_ ++ [u])[s.length]? = some u
  rw [← S.len, List.getElem?_append_right (Nat.le_refl _), Nat.sub_self]
  rfl
theorem s_mls (c : COk g ct n W X) (G' : GOk g gi) (hg : Gl X "list") (hs : isStar a = false) (ha : PE X a (tE g W ma)) :
    PE X (.Call (.Name "list" p) [a] [] pos) (tE g W fun ρ => (ma ρ).bnd fun x => (M.lift fun s => seqOf s x).bnd fun xs => alloc (.lst xs)) := by
  refine PE.wk (pe_callTy call_list_of hg (blt_none G' c (by decide)) PyProof.Rows.boot_list (pa_cons ha pa_nil (star_cons hs)) (by decide) (by decide) (star_cons hs) rfl) fun σ H Q ⟨io, ρ, s, E, S, h⟩ => ?_
  refine tE_run E S h.bnd fun io1 H1 s1 x xv q1 E1 S1 h1 r1 => ?_
  obtain ⟨xs, hx, hP⟩ := lift_ok h1.bnd
  obtain ⟨l, ys, rfl, hs, hr⟩ := rep_seq S1 r1 hx
  have fin := hP io1 H1 (Gr.refl _ _) S1
  exact ⟨l, ys, rfl, hs.imp (fun z => by rw [c.K]; exact z) SqT.of, fun u hu => own_ok S1 fin hr u hu⟩
theorem s_mop {o : Bop} (c : COk g ct n W X) (ha : PE X a (tE g W ma)) (hb : PE X b (tE g W mb)) :
    PE X (.BinOp a (bopO o) b pos) (tE g W fun ρ => (ma ρ).bnd fun x => (mb ρ).bnd fun y => (M.lift (lopF o x y)).bnd fun xs => alloc (.lst xs)) := by
  refine PE.wk (pe_op (opR_own c.K o) ha hb) fun σ H Q ⟨io, ρ, s, E, S, h⟩ => ?_
  refine tE_run E S h.bnd fun io1 H1 s1 x xv q1 E1 S1 h1 r1 => ?_
  refine tE_run E1 S1 h1.bnd fun io2 H2 s2 y yv q2 E2 S2 h2 r2 => ?_
  obtain ⟨xs, hx, hP⟩ := lift_ok h2.bnd
  have fin := hP io2 H2 (Gr.refl _ _) S2
  exact ⟨io2, s2, x, y, xs, S2, r1.grow q2 S1.sto, r2, hx, fun ys hr u hu => own_ok S2 fin hr u hu⟩
end
end Mini

set_option Elab.async false
set_option linter.all false
set_option maxRecDepth 100000
/-! Mini12: the soundness of the checker, expressions. -/
namespace Mini
open PySem L2
def lcM (mu : Bool) (wm : Env → M Walk) (tm : PV → Env → M Env) (im : Env → M Bool) (em : Env → M PV) (vs : List Nat) : Env → M PV := fun ρ => (wm ρ).bnd fun w => fun s =>
  match compGo w.2 (fun x => tm x (Mini.wipe ρ vs)) im (fun ρ => (em ρ).bnd fun y => M.ret [y]) w.1 s with
  | .ok ys s' => mkLst mu ys s'
  | _ => .stuck
def lc2M (mu : Bool) (wm : Env → M Walk) (tm : PV → Env → M Env) (im : Env → M Bool) (wm2 : Env → M Walk) (tm2 : PV → Env → M Env) (im2 : Env → M Bool) (em : Env → M PV) (vs vs2 : List Nat) : Env → M PV := fun ρ => (wm ρ).bnd fun w => fun s =>
  match compGo w.2 (fun x => tm x (Mini.wipe ρ vs)) im (fun ρ => (wm2 ρ).bnd fun w2 => fun s => compGo w2.2 (fun x => tm2 x (Mini.wipe ρ vs2)) im2 (fun ρ => (em ρ).bnd fun y => M.ret [y]) w2.1 s) w.1 s with
  | .ok ys s' => mkLst mu ys s'
  | _ => .stuck
section
variable {g : G} {ct : Ct} {n : Nat} {W : WX} {X : Cx}
theorem mk_sz {α : Type} {P : Io → Hp → Store → PV → Prop} {σ : St} {io : Io} {H : Hp} {mu : Bool} {ys : List PV} {s : Store} (h : Ok g W σ io H P (mkLst mu ys s)) : ys.length ≤ sizeLine := by
  unfold mkLst at h
  by_cases hz : szOk ys.length = true
  · exact szOk_iff.mp hz
  · rw [if_neg hz] at h; exact h.elim
/-- one element is made and appended -/
theorem elt_body {em : Env → M PV} {D : Addr} {iob : Io} {Hb : Hp} (Nx : Hp → Prop) (ρ1 : Env) (σ1 : St) (sB : Store) (ys1 : List PV) (sC : Store) (acc1 : List PV) (io4 : Io) (H4 : Hp)
    (he : ((em ρ1).bnd fun y => M.ret [y]) sB = .ok ys1 sC) (C : Cd g D iob Hb acc1 sB io4 H4) (E : ERp g (io4.hide D) H4 ρ1 σ1) (hl : acc1.length + ys1.length ≤ sizeLine)
    (hn : ∀ io5 H5, Cd g D iob Hb (acc1 ++ ys1) sC io5 H5 → Nx H5) : tE g noW em σ1 H4 fun y H7 => ∃ acc, H7 D = some (.lst acc) ∧ acc.length < sizeLine ∧ Nx (upd H7 D (.lst (acc ++ [y]))) := by
  refine ⟨io4.hide D, ρ1, sB, E, C.st, ?_⟩
  unfold M.bnd at he
  cases e : em ρ1 sB with
  | stuck => rw [e] at he; cases he
  | exc _ _ => rw [e] at he; cases he
  | ok y s5 =>
    rw [e] at he
    cases he
    intro io5 H5 gr S5 yv ry
    obtain ⟨io6, rfl, C6⟩ := C.step gr S5
    obtain ⟨xs, h1, h2, h3⟩ := C6.push ry
    exact ⟨xs, h1, by rw [h2]; simp at hl; omega, hn _ _ h3⟩
theorem Cd.start {D : Addr} {io : Io} {H : Hp} {s : Store} (S : SRp g io H s) (hD : H D = none) : Cd g D io (upd H D (.lst [])) [] s io (upd H D (.lst [])) :=
  ⟨GrD.refl _ _ _, S.hide hD, (Io.not_mem.mp (S.fresh hD)).1, [], upd_same, .nil⟩
theorem mv_start {D : Addr} {io : Io} {H : Hp} {s : Store} (S : SRp g io H s) (hD : H D = none) : ∀ io2 Hc, GrD D io (upd H D (.lst [])) io2 Hc → Mv g io H (io2.hide D) Hc := fun io2 Hc q =>
  (mv_hide hD).trans (q.mv (fun a ha => (S.hide (o := .lst []) hD).sto a ha) upd_same)
theorem lc_lead {mu : Bool} {wm : Env → M Walk} {sl vs : List Nat} {tm : PV → Env → M Env} {im : Env → M Bool} {em : Env → M PV} (hsl : ∀ i ∈ sl, i ∈ vs) {σ : St} {H : Hp} {Q : VK} (h : tE g W (lcM mu wm tm im em vs) σ H Q) :
    tLc (tI g W wm) (tG g sl tm) (tT g noW im) (tE g noW em) vs σ H Q := by
  obtain ⟨io, ρ, s, E, S, h⟩ := h
  refine ⟨io, ρ, s, E, S, (Ok.bnd h).imp fun io1 H1 s1 w gr1 S1 h1 J hJ D hD => ?_⟩
  have E1 := E.grow gr1 S.sto
  cases e : compGo w.2 (fun x => tm x (Mini.wipe ρ vs)) im (fun ρ => (em ρ).bnd fun y => M.ret [y]) w.1 s1 with
  | stuck => simp only [e] at h1; exact h1.elim
  | exc _ _ => simp only [e] at h1; exact h1.elim
  | ok ys s' =>
    simp only [e] at h1
    exact comp_loop (BODY := fun Nx σ2 H3 => tE g noW em σ2 H3 fun y H4 => ∃ acc, H4 D = some (.lst acc) ∧ acc.length < sizeLine ∧ Nx (upd H4 D (.lst (acc ++ [y])))) ⟨io1, H1, hJ, mv_start S1 hD⟩ (E1.mv (mv_hide hD)) hsl
      (fun Nx ρ1 σ1 sB ys1 sC acc1 io4 H4 he C E hl hn => elt_body Nx ρ1 σ1 sB ys1 sC acc1 io4 H4 he C E hl hn) e (Cd.start S1 hD) (by rw [List.nil_append]; exact mk_sz (α := Unit) h1)
      fun io2 H2 C => Cd.done hD S1 C h1
theorem lc2_lead {mu : Bool} {wm wm2 : Env → M Walk} {sl vs sl2 vs2 : List Nat} {tm tm2 : PV → Env → M Env} {im im2 : Env → M Bool} {em : Env → M PV} (hsl : ∀ i ∈ sl, i ∈ vs) (hsl2 : ∀ i ∈ sl2, i ∈ vs2) {σ : St} {H : Hp} {Q : VK}
    (h : tE g W (lc2M mu wm tm im wm2 tm2 im2 em vs vs2) σ H Q) :
    tLc2 (tI g W wm) (tG g sl tm) (tT g noW im) (tI g noW wm2) (tG g sl2 tm2) (tT g noW im2) (tE g noW em) vs vs2 σ H Q := by
  obtain ⟨io, ρ, s, E, S, h⟩ := h
  refine ⟨io, ρ, s, E, S, (Ok.bnd h).imp fun io1 H1 s1 w gr1 S1 h1 J hJ D hD => ?_⟩
  have E1 := E.grow gr1 S.sto
  cases e : compGo w.2 (fun x => tm x (Mini.wipe ρ vs)) im (fun ρ => (wm2 ρ).bnd fun w2 => fun s => compGo w2.2 (fun x => tm2 x (Mini.wipe ρ vs2)) im2 (fun ρ => (em ρ).bnd fun y => M.ret [y]) w2.1 s) w.1 s1 with
  | stuck => simp only [e] at h1; exact h1.elim
  | exc _ _ => simp only [e] at h1; exact h1.elim
  | ok ys s' =>
    simp only [e] at h1
    refine comp_loop (BODY := fun Nx σ2 H3 => tI g noW wm2 σ2 H3 fun J1 H4 => ∃ W1 : Nat → Nat → Hp → Prop, (∃ m, W1 0 m H4) ∧ ∀ j k H, W1 j k H →
      (J1.stop j H ∧ Nx H) ∨ (J1.go j H ∧ ∃ Nx1 : Hp → Prop, (∀ H', Nx1 H' → ∃ k', k' < k ∧ W1 (j + 1) k' H') ∧ ∀ x H', J1.yld j H x H' → tG g sl2 tm2 x (L2.wipe σ2 vs2) H' fun σ3 H5 => L2.wipe σ3 vs2 = L2.wipe σ2 vs2 ∧ tT g noW im2 σ3 H5 fun b H6 =>
        if b = true then tE g noW em σ3 H6 fun y H7 => ∃ acc, H7 D = some (.lst acc) ∧ acc.length < sizeLine ∧ Nx1 (upd H7 D (.lst (acc ++ [y]))) else Nx1 H6)) ⟨io1, H1, hJ, mv_start S1 hD⟩ (E1.mv (mv_hide hD)) hsl
      (fun Nx ρ1 σ1 sB ys1 sC acc1 io4 H4 he C E hl hn => ?_) e (Cd.start S1 hD) (by rw [List.nil_append]; exact mk_sz (α := Unit) h1)
      fun io2 H2 C => Cd.done hD S1 C h1
    refine ⟨io4.hide D, ρ1, sB, E, C.st, ?_⟩
    unfold M.bnd at he
    cases e5 : wm2 ρ1 sB with
    | stuck => simp only [e5] at he; cases he
    | exc _ _ => simp only [e5] at he; cases he
    | ok w2 s5 =>
      simp only [e5] at he
      intro io5 H5 gr S5 J1 hJ1
      obtain ⟨io6, rfl, C6⟩ := C.step gr S5
      obtain ⟨xs6, hx6, r6⟩ := C6.acc
      have C7 : Cd g D io6 H5 acc1 s5 io6 H5 := ⟨GrD.refl _ _ _, C6.st, C6.out, xs6, hx6, r6⟩
      refine comp_loop (BODY := fun Nx1 σ3 H6 => tE g noW em σ3 H6 fun y H7 => ∃ acc, H7 D = some (.lst acc) ∧ acc.length < sizeLine ∧ Nx1 (upd H7 D (.lst (acc ++ [y])))) ⟨_, _, hJ1, fun io2 Hc q => q.mv (fun a ha => C6.st.sto a ha) hx6⟩ (E.grow gr C.st.sto) hsl2
        (fun Nx ρ1 σ1 sB ys1 sC acc1 io4 H4 he C E hl hn => elt_body Nx ρ1 σ1 sB ys1 sC acc1 io4 H4 he C E hl hn) he C7 (by rw [List.length_append]; exact hl)
        fun io2 H2 C => hn _ _ (C6.base C)

/-! ### the checker is sound -/
structure Snd (g : G) (W : WX) (X : Cx) (x : Expr) (m : Env → M PV) : Prop where
  e : PE X x (tE g W m)
  t : PT X x (tT g W fun ρ => (m ρ).bnd truthM)
  b : ∀ op l p, x = .BoolOp op l p → PW X x (tT g W fun ρ => (m ρ).bnd truthM)
theorem Snd.plain {x : Expr} {m : Env → M PV} (c : COk g ct n W X) (h : PE X x (tE g W m)) (p : plainT x = true) : Snd g W X x m :=
  ⟨h, t_gen c h p, fun op l q e => by rw [e] at p; simp [plainT] at p⟩
theorem Snd.nob {x : Expr} {m : Env → M PV} (h : PE X x (tE g W m)) (t : PT X x (tT g W fun ρ => (m ρ).bnd truthM)) (p : notBool x = true) : Snd g W X x m :=
  ⟨h, t, fun op l q e => by rw [e] at p; simp [notBool] at p⟩
variable {F : Fs} {gi : List (Str × Int)} {Φ : Str → List PV → M PV}
theorem and3 {a b : Bool} (h : (a && b) = true) : a = true ∧ b = true := Bool.and_eq_true_iff.mp h
theorem subL_ok {a b : List Nat} (h : subL a b = true) : ∀ i ∈ a, i ∈ b := fun i hi => of_decide_eq_true (List.all_eq_true.mp h i hi)
theorem it_set {ct : Ct} {i : It} {t x : Expr} (h : chkIt F gi ct i t x = true) : isSet x = false := by
  cases x with
  | Set l k p => cases i <;> simp [chkIt, vCall, isSet] at h
  | _ => rfl
mutual
theorem sndE (G' : GOk g gi) (hΦ : PhiOk g n F Φ) : ∀ (e : E) (ct : Ct) (W : WX) (X : Cx) (x : Expr), COk g ct n W X → chkE F gi ct e x = true → Snd g W X x (evE Φ e)
  | .var i, ct, W, X, x, c, h => by
    simp only [chkE] at h
    split at h
    · rename_i y p hv
      obtain ⟨h1, h⟩ := and3 h
      obtain ⟨h2, h3⟩ := and3 h
      rw [vName_ok hv]
      exact .plain c (s_var c (of_decide_eq_true h1) h2 h3) rfl
    · cases h
  | .non, ct, W, X, x, c, h => by
    simp only [chkE] at h
    split at h
    · rename_i hv
      obtain ⟨k, p, rfl⟩ := vConst_ok hv
      exact .plain c (s_ret pe_non fun _ _ => .non) rfl
    · cases h
  | .bl b, ct, W, X, x, c, h => by
    simp only [chkE] at h
    split at h
    · rename_i d hv
      obtain ⟨k, p, rfl⟩ := vConst_ok hv
      have e := of_decide_eq_true h
      subst e
      exact .plain c (s_ret pe_bl fun _ _ => .bl b) rfl
    · cases h
  | .int i, ct, W, X, x, c, h => by
    simp only [chkE] at h
    split at h
    · rename_i d hv
      obtain ⟨k, p, rfl⟩ := vConst_ok hv
      have e := of_decide_eq_true h
      subst e
      exact .plain c (s_ret pe_int fun _ _ => .int i) rfl
    · cases h
  | .str i, ct, W, X, x, c, h => by
    simp only [chkE] at h
    split at h
    · rename_i d hv
      obtain ⟨k, p, rfl⟩ := vConst_ok hv
      have e := of_decide_eq_true h
      subst e
      exact .plain c (s_ret pe_str fun _ _ => .str i) rfl
    · cases h
  | .gint y i, ct, W, X, x, c, h => by
    simp only [chkE] at h
    split at h
    · rename_i z p hv
      obtain ⟨h1, h⟩ := and3 h
      obtain ⟨h2, h⟩ := and3 h
      obtain ⟨h3, h4⟩ := and3 h
      have e := of_decide_eq_true h1
      subst e
      rw [vName_ok hv]
      exact .plain c (s_gint c G' (of_decide_eq_true h2) h3 h4) rfl
    · cases h
  | .tup es, ct, W, X, x, c, h => by
    simp only [chkE] at h
    split at h
    · rename_i l hv
      obtain ⟨k, p, rfl⟩ := vTup_ok hv
      exact .plain c (s_tup c (sndEs G' hΦ es ct W X l c h).1) rfl
    · cases h
  | .lst mu es, ct, W, X, x, c, h => by
    simp only [chkE] at h
    split at h
    · rename_i l hv
      obtain ⟨p, rfl⟩ := vList_ok hv
      exact .plain c (s_lst c (sndEs G' hΦ es ct W X l c h).1) rfl
    · cases h
  | .op o a b, ct, W, X, x, c, h => by
    simp only [chkE] at h
    split at h
    · rename_i p q r hv
      obtain ⟨pos, rfl⟩ := vBin_ok hv
      obtain ⟨h1, h⟩ := and3 h
      obtain ⟨h2, h3⟩ := and3 h
      have e := of_decide_eq_true h1
      subst e
      exact .plain c (s_op c (sndE G' hΦ a ct W X p c h2).e (sndE G' hΦ b ct W X r c h3).e) rfl
    · cases h
  | .neg a, ct, W, X, x, c, h => by
    simp only [chkE] at h
    split at h
    · rename_i q r hv
      obtain ⟨pos, rfl⟩ := vUn_ok hv
      obtain ⟨h1, h2⟩ := and3 h
      have e := of_decide_eq_true h1
      subst e
      exact .plain c (s_neg c (sndE G' hΦ a ct W X r c h2).e) rfl
    · cases h
  | .not a, ct, W, X, x, c, h => by
    simp only [chkE] at h
    split at h
    · rename_i q r hv
      obtain ⟨pos, rfl⟩ := vUn_ok hv
      obtain ⟨h1, h2⟩ := and3 h
      have e := of_decide_eq_true h1
      subst e
      have s := sndE G' hΦ a ct W X r c h2
      exact .nob (s_not c s.e) (t_not c s.t) rfl
    · cases h
  | .cmp o a b, ct, W, X, x, c, h => by
    simp only [chkE] at h
    split at h
    · rename_i p q r hv
      obtain ⟨pos, rfl⟩ := vCmp_ok hv
      obtain ⟨h1, h⟩ := and3 h
      obtain ⟨h2, h⟩ := and3 h
      obtain ⟨h3, h4⟩ := and3 h
      have e := of_decide_eq_true h1
      subst e
      have h2 : behindInMarks (copO o) r = false := by simpa using h2
      have s1 := (sndE G' hΦ a ct W X p c h3).e
      have s2 := (sndE G' hΦ b ct W X r c h4).e
      exact .nob (s_cmp c s1 s2 h2) (t_cmp c s1 s2 h2) rfl
    · cases h
  | .chain o o' a b d, ct, W, X, x, c, h => by
    simp only [chkE] at h
    split at h
    · rename_i p q q' r r' hv
      obtain ⟨pos, rfl⟩ := vCmp_ok hv
      obtain ⟨h1, h⟩ := and3 h
      obtain ⟨h2, h⟩ := and3 h
      obtain ⟨h3, h⟩ := and3 h
      obtain ⟨h4, h⟩ := and3 h
      obtain ⟨h5, h6⟩ := and3 h
      have e := of_decide_eq_true h1
      subst e
      have e := of_decide_eq_true h2
      subst e
      have h3 : lastMarks [copO o, copO o'] [r, r'] = false := by simpa using h3
      have s1 := (sndE G' hΦ a ct W X p c h4).e
      have s2 := (sndE G' hΦ b ct W X r c h5).e
      have s3 := (sndE G' hΦ d ct W X r' c h6).e
      exact .nob (s_chain c s1 s2 s3 h3) (t_chain c s1 s2 s3 h3) rfl
    · cases h
  | .and a b, ct, W, X, x, c, h => by
    simp only [chkE] at h
    split at h
    · rename_i p q r pos hv
      rw [vBool_ok hv]
      obtain ⟨h1, h2⟩ := and3 h
      have s1 := sndE G' hΦ a ct W X p c h1
      cases r with
      | nil =>
        have s2 := sndE G' hΦ b ct W X q c h2
        have w := t_and (pos := pos) s1.t (pw_and1 s2.t)
        exact ⟨s_and c s1.e (pe_one s2.e), w.pt, fun _ _ _ _ => w⟩
      | cons r rs =>
        have s2 := sndE G' hΦ b ct W X _ c h2
        have w := t_and (pos := pos) s1.t (s2.b _ _ _ rfl)
        exact ⟨s_and c s1.e s2.e, w.pt, fun _ _ _ _ => w⟩
    · cases h
  | .or a b, ct, W, X, x, c, h => by
    simp only [chkE] at h
    split at h
    · rename_i p q r pos hv
      rw [vBool_ok hv]
      obtain ⟨h1, h2⟩ := and3 h
      have s1 := sndE G' hΦ a ct W X p c h1
      cases r with
      | nil =>
        have s2 := sndE G' hΦ b ct W X q c h2
        have w := t_or (pos := pos) s1.t (pw_or1 s2.t)
        exact ⟨s_or c s1.e (pe_one s2.e), w.pt, fun _ _ _ _ => w⟩
      | cons r rs =>
        have s2 := sndE G' hΦ b ct W X _ c h2
        have w := t_or (pos := pos) s1.t (s2.b _ _ _ rfl)
        exact ⟨s_or c s1.e s2.e, w.pt, fun _ _ _ _ => w⟩
    · cases h
  | .ite d a b, ct, W, X, x, c, h => by
    simp only [chkE] at h
    split at h
    · rename_i p q r hv
      obtain ⟨pos, rfl⟩ := vIf_ok hv
      obtain ⟨h1, h⟩ := and3 h
      obtain ⟨h2, h3⟩ := and3 h
      have s1 := sndE G' hΦ d ct W X p c h1
      have s2 := sndE G' hΦ a ct W X q c h2
      have s3 := sndE G' hΦ b ct W X r c h3
      exact .nob (s_ite s1.t s2.e s3.e) (t_ite s1.t s2.t s3.t) rfl
    · cases h
  | .call f es, ct, W, X, x, c, h => by
    simp only [chkE] at h
    split at h
    · rename_i y l pos hv
      rw [vCall_ok hv]
      obtain ⟨h1, h⟩ := and3 h
      obtain ⟨h2, h⟩ := and3 h
      obtain ⟨h3, h4⟩ := and3 h
      obtain ⟨hg, p, rfl⟩ := gl_blt c h1
      obtain ⟨⟨f', ps⟩, m1, m2⟩ := List.any_eq_true.mp h3
      obtain ⟨m2, m3⟩ := and3 m2
      have e0 : f' = f := of_decide_eq_true m2
      subst e0
      have hf := hΦ _ m1
      cases es with
      | nil =>
        cases l with
        | nil => exact .plain c (s_call0 c hf hg h2) rfl
        | cons _ _ => simp [chkEs] at h4
      | cons e r =>
        cases l with
        | nil => simp [chkEs] at h4
        | cons z l =>
          have s := sndEs G' hΦ (.cons e r) ct W X _ c h4
          exact .plain c (s_call c hf hg h2 s.2.1 s.1) rfl
    · cases h
  | .bi b es, ct, W, X, x, c, h => by
    simp only [chkE] at h
    split at h
    · rename_i y l pos hv
      rw [vCall_ok hv]
      obtain ⟨h1, h⟩ := and3 h
      obtain ⟨h2, h3⟩ := and3 h
      obtain ⟨hg, p, rfl⟩ := gl_blt c h1
      have s := sndEs G' hΦ es ct W X _ c h3
      exact .plain c (s_bi c G' hg s.2.1 (by intro e; rw [e] at h2; simp at h2) s.1) rfl
    · cases h
  | .meth m o es, ct, W, X, x, c, h => by
    simp only [chkE] at h
    split at h
    · rename_i y l pos hv
      split at h
      · rename_i p nm apos hv2
        rw [vCall_ok hv, vAttr_ok hv2]
        obtain ⟨h1, h⟩ := and3 h
        obtain ⟨h2, h⟩ := and3 h
        obtain ⟨h3, h⟩ := and3 h
        obtain ⟨h4, h⟩ := and3 h
        obtain ⟨h5, h6⟩ := and3 h
        have e := of_decide_eq_true h1
        subst e
        have s1 := (sndE G' hΦ o ct W X p c h2).e
        cases es with
        | nil =>
          cases l with
          | nil => exact .plain c (s_meth0 c s1 (of_decide_eq_true h6) h5) rfl
          | cons _ _ => simp [chkEs] at h3
        | cons e r =>
          have s := sndEs G' hΦ (.cons e r) ct W X _ c h3
          refine .plain c (s_meth c s1 (of_decide_eq_true h6) ?_ s.2.1 (of_decide_eq_true h4) h5 s.1) rfl
          intro e; rw [e] at h3; simp [chkEs] at h3
      · cases h
    · cases h
  | .isi a t, ct, W, X, x, c, h => by
    simp only [chkE] at h
    split at h
    · rename_i y p q pos hv
      rw [vCall_ok hv]
      obtain ⟨h1, h⟩ := and3 h
      obtain ⟨h2, h⟩ := and3 h
      obtain ⟨h3, h4⟩ := and3 h
      obtain ⟨hg, p1, rfl⟩ := gl_blt c h1
      obtain ⟨hg2, p2, rfl⟩ := gl_blt c h2
      exact .plain c (s_isi c G' hg hg2 (by simpa using h3) (sndE G' hΦ a ct W X p c h4).e) rfl
    · cases h
  | .isx a k up cs, ct, W, X, x, c, h => by
    simp only [chkE] at h
    split at h
    · rename_i y p q pos hv
      rw [vCall_ok hv]
      obtain ⟨h1, h⟩ := and3 h
      obtain ⟨h2, h⟩ := and3 h
      obtain ⟨h3, h⟩ := and3 h
      obtain ⟨h4, h⟩ := and3 h
      obtain ⟨h5, h6⟩ := and3 h
      obtain ⟨hg, p1, rfl⟩ := gl_blt c h1
      obtain ⟨hg2, p2, rfl⟩ := gl_blt c h2
      exact .plain c (s_isx c hg hg2 h3 (of_decide_eq_true h4) (by simpa using h5) (sndE G' hΦ a ct W X p c h6).e) rfl
    · cases h
  | .cnt a b, ct, W, X, x, c, h => by
    simp only [chkE] at h
    split at h
    · rename_i y q pos hv
      rw [vCall_ok hv]
      split at h
      · rename_i p nm apos hv2
        rw [vAttr_ok hv2]
        obtain ⟨h1, h⟩ := and3 h
        obtain ⟨h2, h⟩ := and3 h
        obtain ⟨h3, h⟩ := and3 h
        obtain ⟨h4, h⟩ := and3 h
        obtain ⟨h5, h6⟩ := and3 h
        have e0 := of_decide_eq_true h1
        subst e0
        exact .plain c (s_cnt c (sndE G' hΦ a ct W X p c h2).e (of_decide_eq_true h6) (by simpa using h3) h5 (sndE G' hΦ b ct W X q c h4).e) rfl
      · cases h
    · cases h
  | .callk f ks pm es, ct, W, X, x, c, h => by
    simp only [chkE] at h
    split at h
    · rename_i y kws pos hv
      rw [vCall_ok hv]
      obtain ⟨h1, h⟩ := and3 h
      obtain ⟨h2, h⟩ := and3 h
      obtain ⟨h3, h⟩ := and3 h
      obtain ⟨h4, h5⟩ := and3 h
      obtain ⟨hg, p, rfl⟩ := gl_blt c h1
      obtain ⟨⟨f', ps⟩, m1, m2⟩ := List.any_eq_true.mp h4
      obtain ⟨m2, m3⟩ := and3 m2
      have e0 : f' = f := of_decide_eq_true m2
      subst e0
      have s := sndKs G' hΦ ks es ct W X kws c h5
      exact .plain c (s_callk c (hΦ _ m1) hg h2 m3 s.2.1 s.1 s.2.2) rfl
    · cases h
  | .dict mu es, ct, W, X, x, c, h => by
    simp only [chkE] at h
    split at h
    · rename_i ks vs hv
      obtain ⟨pos, rfl⟩ := vDict_ok hv
      obtain ⟨h1, h⟩ := and3 h
      obtain ⟨h2, h3⟩ := and3 h
      obtain ⟨s1, s2, s3, s4⟩ := sndPs G' hΦ es ct W X ks vs c h1
      exact .plain c (s_dict (s1 pos) s2 s3 s4 (by intro e; rw [e] at h2; simp at h2) (of_decide_eq_true h3)) rfl
    · cases h
  | .dnew mu t, ct, W, X, x, c, h => by
    simp only [chkE] at h
    split at h
    · rename_i hv
      obtain ⟨pos, rfl⟩ := vDict_ok hv
      exact .plain c s_dnew rfl
    · cases h
  | .dzip mu a b, ct, W, X, x, c, h => by
    simp only [chkE] at h
    split at h
    · rename_i y z pos hv
      obtain ⟨h1, h⟩ := and3 h
      split at h
      · rename_i y2 p q pos2 hv2
        obtain ⟨h2, h⟩ := and3 h
        obtain ⟨h3, h⟩ := and3 h
        obtain ⟨h4, h⟩ := and3 h
        obtain ⟨h5, h6⟩ := and3 h
        rw [vCall_ok hv, vCall_ok hv2]
        obtain ⟨hg, p1, rfl⟩ := gl_blt c h1
        obtain ⟨hg2, p2, rfl⟩ := gl_blt c h2
        exact .plain c (s_dzip c G' hg hg2 (by simpa using h3) (by simpa using h4) (sndE G' hΦ a ct W X p c h5).e (sndE G' hΦ b ct W X q c h6).e) rfl
      · cases h
    · cases h
  | .lset a, ct, W, X, x, c, h => by
    simp only [chkE] at h
    split at h
    · rename_i y z pos hv
      obtain ⟨h1, h⟩ := and3 h
      split at h
      · rename_i y2 p pos2 hv2
        obtain ⟨h2, h⟩ := and3 h
        obtain ⟨h3, h4⟩ := and3 h
        rw [vCall_ok hv, vCall_ok hv2]
        obtain ⟨hg, p1, rfl⟩ := gl_blt c h1
        obtain ⟨hg2, p2, rfl⟩ := gl_blt c h2
        exact .plain c (s_lset c G' hg hg2 (by simpa using h3) (sndE G' hΦ a ct W X p c h4).e) rfl
      · cases h
    · cases h
  | .sset a, ct, W, X, x, c, h => by
    simp only [chkE] at h
    split at h
    · rename_i y z pos hv
      obtain ⟨h1, h⟩ := and3 h
      split at h
      · rename_i y2 p pos2 hv2
        obtain ⟨h2, h⟩ := and3 h
        obtain ⟨h3, h4⟩ := and3 h
        rw [vCall_ok hv, vCall_ok hv2]
        obtain ⟨hg, p1, rfl⟩ := gl_blt c h1
        obtain ⟨hg2, p2, rfl⟩ := gl_blt c h2
        exact .plain c (s_sset c G' hg hg2 (by simpa using h3) (sndE G' hΦ a ct W X p c h4).e) rfl
      · cases h
    · cases h
  | .mls a, ct, W, X, x, c, h => by
    simp only [chkE] at h
    split at h
    · rename_i y p pos hv
      obtain ⟨h1, h⟩ := and3 h
      obtain ⟨h2, h3⟩ := and3 h
      rw [vCall_ok hv]
      obtain ⟨hg, p1, rfl⟩ := gl_blt c h1
      exact .plain c (s_mls c G' hg (by simpa using h2) (sndE G' hΦ a ct W X p c h3).e) rfl
    · cases h
  | .mop o a b, ct, W, X, x, c, h => by
    simp only [chkE] at h
    split at h
    · rename_i p q r hv
      obtain ⟨pos, rfl⟩ := vBin_ok hv
      obtain ⟨h1, h⟩ := and3 h
      obtain ⟨h2, h3⟩ := and3 h
      have e := of_decide_eq_true h1
      subst e
      exact .plain c (s_mop c (sndE G' hΦ a ct W X p c h2).e (sndE G' hΦ b ct W X r c h3).e) rfl
    · cases h
  | .rgl k a, ct, W, X, x, c, h => by
    simp only [chkE] at h
    split at h
    · rename_i y z pos hv
      obtain ⟨h1, h⟩ := and3 h
      split at h
      · rename_i y2 p pos2 hv2
        obtain ⟨h2, h⟩ := and3 h
        obtain ⟨h3, h4⟩ := and3 h
        rw [vCall_ok hv, vCall_ok hv2]
        obtain ⟨hg, p1, rfl⟩ := gl_blt c h1
        obtain ⟨hg2, p2, rfl⟩ := gl_blt c h2
        exact .plain c (s_rgl c G' (by split <;> rfl) hg hg2 (by simpa using h3) (sndE G' hΦ a ct W X p c h4).e) rfl
      · cases h
    · cases h
  | .rgl2 k a b, ct, W, X, x, c, h => by
    simp only [chkE] at h
    split at h
    · rename_i y z pos hv
      obtain ⟨h1, h⟩ := and3 h
      split at h
      · rename_i y2 p q pos2 hv2
        obtain ⟨h2, h⟩ := and3 h
        obtain ⟨h3, h⟩ := and3 h
        obtain ⟨h4, h⟩ := and3 h
        obtain ⟨h5, h6⟩ := and3 h
        rw [vCall_ok hv, vCall_ok hv2]
        obtain ⟨hg, p1, rfl⟩ := gl_blt c h1
        obtain ⟨hg2, p2, rfl⟩ := gl_blt c h2
        exact .plain c (s_rgl2 c G' (by split <;> rfl) hg hg2 (by simpa using h3) (by simpa using h4) (sndE G' hΦ a ct W X p c h5).e (sndE G' hΦ b ct W X q c h6).e) rfl
      · cases h
    · cases h
  | .sub a i, ct, W, X, x, c, h => by
    simp only [chkE] at h
    split at h
    · rename_i p q hv
      obtain ⟨pos, rfl⟩ := vSub_ok hv
      obtain ⟨h1, h⟩ := and3 h
      obtain ⟨h2, h3⟩ := and3 h
      exact .plain c (s_sub c (of_decide_eq_true h3) (sndE G' hΦ a ct W X p c h1).e (sndE G' hΦ i ct W X q c h2).e) rfl
    · cases h
  | .slc a lo hi, ct, W, X, x, c, h => by
    simp only [chkE] at h
    split at h
    · rename_i p q hv
      obtain ⟨pos, rfl⟩ := vSub_ok hv
      split at h
      · rename_i l u hv2
        obtain ⟨p2, rfl⟩ := vSlice_ok hv2
        obtain ⟨h1, h⟩ := and3 h
        obtain ⟨h2, h3⟩ := and3 h
        exact .plain c (s_slc c (sndE G' hΦ a ct W X p c h1).e (sndO G' hΦ lo ct W X l c h2) (sndO G' hΦ hi ct W X u c h3)) rfl
      · cases h
    · cases h
  | .lc mu elt tg it ifs own, ct, W, X, x, c, h => by
    simp only [chkE] at h
    split at h
    · rename_i e t i fs scope pos hv
      rw [vLc_ok hv]
      obtain ⟨h1, h⟩ := and3 h
      obtain ⟨h2, h⟩ := and3 h
      obtain ⟨h3, h⟩ := and3 h
      obtain ⟨h4, h⟩ := and3 h
      obtain ⟨h5, h⟩ := and3 h
      obtain ⟨h6, h7⟩ := and3 h
      obtain ⟨hi, hs⟩ := sndIt G' hΦ it ct W X t i c h3
      have ok : BlkOk X.N X.env.scope scope own := by rw [c.N, c.sc]; exact blkOk_by h1
      have B := fun s H C cl fp => c.blk s H scope C cl fp
      refine .plain c (PE.wk (pe_lc c.calm (by rw [c.N]; exact c.nd) hi ok (fun s H C cl fp => sndTg G' hΦ tg _ _ _ t (B s H C cl fp) h4)
        (fun s H C cl fp => (sndEs G' hΦ ifs _ _ _ fs (B s H C cl fp) h5).2.2 (of_decide_eq_true h6)) (fun s H C cl fp => (sndE G' hΦ elt _ _ _ e (B s H C cl fp) h7).e) (set_fold hs)) fun σ H Q h => lc_lead (subL_ok h2) h) rfl
    · cases h
  | .lc2 mu elt tg it ifs tg2 it2 ifs2 own own2, ct, W, X, x, c, h => by
    simp only [chkE] at h
    split at h
    · rename_i e t i fs t2 i2 fs2 scope pos hv
      rw [vLc_ok hv]
      obtain ⟨h1, h⟩ := and3 h
      obtain ⟨h2, h⟩ := and3 h
      obtain ⟨h3, h⟩ := and3 h
      obtain ⟨h4, h⟩ := and3 h
      obtain ⟨h5, h⟩ := and3 h
      obtain ⟨h6, h⟩ := and3 h
      obtain ⟨h7, h⟩ := and3 h
      obtain ⟨h8, h⟩ := and3 h
      obtain ⟨h9, h⟩ := and3 h
      obtain ⟨k1, h⟩ := and3 h
      obtain ⟨k2, h⟩ := and3 h
      obtain ⟨k3, k4⟩ := and3 h
      obtain ⟨hi, hs⟩ := sndIt G' hΦ it ct W X t i c h3
      have ok : BlkOk X.N X.env.scope scope own := by rw [c.N, c.sc]; exact blkOk_by h1
      have B := fun s H C cl fp => c.blk s H scope C cl fp
      have hs2 : isSet i2 = false := it_set h9
      refine .plain c (PE.wk (pe_lc2 c.calm (by rw [c.N]; exact c.nd) hi ok (subL_ok h7) (fun s H C cl fp => sndTg G' hΦ tg _ _ _ t (B s H C cl fp) h4)
        (fun s H C cl fp => (sndEs G' hΦ ifs _ _ _ fs (B s H C cl fp) h5).2.2 (of_decide_eq_true h6))
        (fun s H C cl fp => (sndIt G' hΦ it2 _ _ _ t2 i2 (B s H C cl fp) h9).1) (fun s H C cl fp => sndTg G' hΦ tg2 _ _ _ t2 (B s H C cl fp) k1)
        (fun s H C cl fp => (sndEs G' hΦ ifs2 _ _ _ fs2 (B s H C cl fp) k2).2.2 (of_decide_eq_true k3))
        (fun s H C cl fp => (sndE G' hΦ elt _ _ _ e (B s H C cl fp) k4).e) (set_fold hs) (fun env x => set_fold hs2 x)) fun σ H Q h => lc2_lead (subL_ok h2) (subL_ok h8) h) rfl
    · cases h
  | .lamk k, ct, W, X, x, c, h => by
    simp only [chkE] at h
    obtain ⟨⟨b, sc⟩, hv⟩ := Option.isSome_iff_exists.mp h
    have s := s_lamk c hv
    obtain ⟨⟨p, rfl⟩, _, _⟩ := lamB_ok hv
    have e : evE Φ (.lamk k) = fun _ => M.ret (.clo k) := by funext ρ; rw [evE]
    rw [e]
    exact .plain c s rfl
  | .caught i cs es, ct, W, X, x, c, h => by
    simp only [chkE] at h
    split at h
    · rename_i y z pos hv
      rw [vCall_ok hv]
      obtain ⟨h1, h⟩ := and3 h
      obtain ⟨h2, h⟩ := and3 h
      obtain ⟨h3, h⟩ := and3 h
      obtain ⟨h4, h5⟩ := and3 h
      obtain ⟨hg, p, rfl⟩ := gl_blt c h1
      split at h2
      · rename_i nm p1 hz
        obtain ⟨k1, h2⟩ := and3 h2
        obtain ⟨k2, k3⟩ := and3 h2
        have ez := vName_ok hz
        subst ez
        have ha := s_var (p := p1) c (of_decide_eq_true k1) k2 k3
        have hne : ct.lams ≠ [] := fun e => by rw [e] at h4; simp at h4
        have s := s_cau (p := p) (pos := pos) c hne hg rfl ha (cs := cs) (fun x hx => of_decide_eq_true (List.all_eq_true.mp h3 x hx)) (ev := fun k ρ => evNth Φ es k ρ) (fun k b sc hk => .inr (sndLs G' hΦ es ct ct.lams h5 k b sc hk))
        have e : evE Φ (.caught i cs es) = fun ρ => (evE Φ (.var i) ρ).bnd fun v => cauV cs (fun k ρ => evNth Φ es k ρ) v ρ := by
          funext ρ
          rw [evE, evE]
          cases ρ[i]?.join with
          | none => rfl
          | some v => cases v <;> rfl
        rw [e]
        exact .plain c s rfl
      · cases h2
    · cases h
  | .caughtL k cs e, ct, W, X, x, c, h => by
    simp only [chkE] at h
    split at h
    · rename_i y z pos hv
      rw [vCall_ok hv]
      obtain ⟨h1, h⟩ := and3 h
      obtain ⟨h3, h5⟩ := and3 h
      obtain ⟨hg, p, rfl⟩ := gl_blt c h1
      split at h5
      · rename_i b sc hz
        have ha := s_lamk c hz
        obtain ⟨⟨p1, rfl⟩, hl, hs⟩ := lamB_ok hz
        have hne : ct.lams ≠ [] := fun e => by rw [e] at hl; cases hl
        have s := s_cau (p := p) (pos := pos) c hne hg rfl ha (cs := cs) (fun x hx => of_decide_eq_true (List.all_eq_true.mp h3 x hx)) (ev := fun k' ρ => if k' = k then evE Φ e ρ else M.stuck) (fun k' b' sc' hk => by
          by_cases q : k' = k
          · subst q
            rw [hl] at hk; cases hk
            refine .inr ⟨LamX.lamS_by hs, fun W' X' c' => ?_⟩
            have z := (sndE G' hΦ e (ct.lamc sc) W' X' b c' h5).e
            have e2 : (fun ρ => if k' = k' then evE Φ e ρ else M.stuck) = evE Φ e := by funext ρ; rw [if_pos rfl]
            rw [e2]
            exact z
          · exact .inl fun ρ s => by rw [if_neg q]; rfl)
        have e2 : evE Φ (.caughtL k cs e) = fun ρ => (M.ret (.clo k)).bnd fun v => cauV cs (fun k' ρ => if k' = k then evE Φ e ρ else M.stuck) v ρ := by
          funext ρ
          rw [evE]
          show caughtM cs (evE Φ e ρ) = caughtM cs (if k = k then evE Φ e ρ else M.stuck)
          rw [if_pos rfl]
        rw [e2]
        exact .plain c s rfl
      · cases h5
    · cases h
theorem sndLs (G' : GOk g gi) (hΦ : PhiOk g n F Φ) : ∀ (es : Es) (ct : Ct) (l : List (Expr × Scope)), chkLs F gi ct es l = true → ∀ (k : Nat) (b : Expr) (sc : Scope), l[k]? = some (b, sc) → LamX.LamS ct.sc sc ∧ ∀ (W' : WX) (X' : Cx), COk g (ct.lamc sc) n W' X' → PE X' b (tE g W' fun ρ => evNth Φ es k ρ)
  | .nil, ct, l, h, k, b, sc, hk => by
    simp only [chkLs] at h
    cases l with
    | nil => simp at hk
    | cons _ _ => simp at h
  | .cons e r, ct, l, h, k, b, sc, hk => by
    simp only [chkLs] at h
    split at h
    · rename_i b1 sc1 l1
      obtain ⟨h1, h⟩ := and3 h
      obtain ⟨h2, h3⟩ := and3 h
      cases k with
      | zero =>
        simp at hk
        obtain ⟨e1, e2⟩ := hk
        subst e1 e2
        refine ⟨LamX.lamS_by h1, fun W' X' c' => ?_⟩
        have z := (sndE G' hΦ e (ct.lamc sc1) W' X' b1 c' h2).e
        have e2 : (fun ρ => evNth Φ (.cons e r) 0 ρ) = evE Φ e := by funext ρ; rw [evNth]
        rw [e2]
        exact z
      | succ k =>
        have z := sndLs G' hΦ r ct l1 h3 k b sc (by simpa using hk)
        refine ⟨z.1, fun W' X' c' => ?_⟩
        have e2 : (fun ρ => evNth Φ (.cons e r) (k + 1) ρ) = fun ρ => evNth Φ r k ρ := by funext ρ; rw [evNth]
        rw [e2]
        exact z.2 W' X' c'
    · cases h
theorem sndKs (G' : GOk g gi) (hΦ : PhiOk g n F Φ) : ∀ (ks : List Str) (e : Es) (ct : Ct) (W : WX) (X : Cx) (x : List Keyword), COk g ct n W X → chkKs F gi ct ks e x = true →
    PK X x (tA g W (evEs Φ e)) ∧ x.map (·.1) = ks.map some ∧ ∀ ρ s vs s', evEs Φ e ρ s = .ok vs s' → vs.length = ks.length
  | ks, .nil, ct, W, X, x, c, h => by
    simp only [chkKs] at h
    obtain ⟨h1, h2⟩ := and3 h
    have e1 : ks = [] := by simpa using h1
    have e2 : x = [] := by simpa using h2
    subst e1 e2
    refine ⟨k_nil, rfl, fun ρ s vs s' e => ?_⟩
    cases e
    rfl
  | ks, .cons e r, ct, W, X, x, c, h => by
    simp only [chkKs] at h
    split at h
    · rename_i k ks nm y p l
      obtain ⟨h1, h⟩ := and3 h
      obtain ⟨h2, h3⟩ := and3 h
      have e1 := of_decide_eq_true h1
      subst e1
      have s := sndKs G' hΦ ks r ct W X l c h3
      refine ⟨k_cons (sndE G' hΦ e ct W X y c h2).e s.1, by rw [List.map_cons, List.map_cons, s.2.1], fun ρ st vs s' ev => ?_⟩
      simp only [evEs, M.bnd] at ev
      cases e1 : evE Φ e ρ st with
      | stuck => rw [e1] at ev; cases ev
      | exc _ _ => rw [e1] at ev; cases ev
      | ok v s1 =>
        rw [e1] at ev
        simp only at ev
        cases e2 : evEs Φ r ρ s1 with
        | stuck => rw [e2] at ev; cases ev
        | exc _ _ => rw [e2] at ev; cases ev
        | ok vs2 s2 =>
          rw [e2] at ev
          cases ev
          rw [List.length_cons, List.length_cons, s.2.2 _ _ _ _ e2]
    · cases h
theorem sndEs (G' : GOk g gi) (hΦ : PhiOk g n F Φ) : ∀ (e : Es) (ct : Ct) (W : WX) (X : Cx) (x : List Expr), COk g ct n W X → chkEs F gi ct e x = true → PA X x (tA g W (evEs Φ e)) ∧ nostar x = true ∧ (x.length ≤ 1 → PTs X x (tT g W (evIf Φ e)))
  | .nil, ct, W, X, x, c, h => by
    simp only [chkEs] at h
    cases x with
    | nil =>
      refine ⟨a_nil, rfl, fun _ => ⟨fun pins s σ H Q I q => pts_nil.run pins s σ H Q I ?_⟩⟩
      obtain ⟨io, ρ, st, E, S, h⟩ := q
      exact Ok.ret h S
    | cons _ _ => simp at h
  | .cons e r, ct, W, X, x, c, h => by
    simp only [chkEs] at h
    split at h
    · rename_i y l
      obtain ⟨h1, h⟩ := and3 h
      obtain ⟨h2, h3⟩ := and3 h
      have h1 : isStar y = false := by simpa using h1
      have s1 := sndE G' hΦ e ct W X y c h2
      have s2 := sndEs G' hΦ r ct W X l c h3
      refine ⟨a_cons h1 s1.e s2.1, ?_, fun hl => ?_⟩
      · show (!isStar y && nostar l) = true
        rw [h1, s2.2.1]; rfl
      · have : l = [] := by
          cases l with
          | nil => rfl
          | cons _ _ => simp at hl
        subst this
        exact pts_one s1.t
    · cases h
theorem sndPs (G' : GOk g gi) (hΦ : PhiOk g n F Φ) : ∀ (e : Es) (ct : Ct) (W : WX) (X : Cx) (ks : List (Option Expr)) (vs : List Expr), COk g ct n W X → chkPs F gi ct e ks vs = true →
    (∀ pos, PPs X pos ks vs (trsOf g W Φ e)) ∧ evenEs e = true ∧ ks.all (·.isSome) = true ∧ ks.length = vs.length
  | .nil, ct, W, X, ks, vs, c, h => by
    simp only [chkPs] at h
    cases ks with
    | cons _ _ => simp at h
    | nil =>
      cases vs with
      | cons _ _ => simp at h
      | nil => exact ⟨fun _ => pps_nil, rfl, rfl, rfl⟩
  | .cons k .nil, ct, W, X, ks, vs, c, h => by
    simp only [chkPs] at h
    split at h
    · simp only [chkPv, Bool.and_false] at h; cases h
    · cases h
  | .cons k (.cons v r), ct, W, X, ks, vs, c, h => by
    simp only [chkPs] at h
    split at h
    · rename_i p ks
      obtain ⟨h1, h⟩ := and3 h
      simp only [chkPv] at h
      split at h
      · rename_i q vs _
        obtain ⟨h2, h3⟩ := and3 h
        obtain ⟨s1, s2, s3, s4⟩ := sndPs G' hΦ r ct W X ks vs c h3
        refine ⟨fun pos => pps_cons (sndE G' hΦ k ct W X p c h1).e (sndE G' hΦ v ct W X q c h2).e (s1 pos), s2, ?_, by rw [List.length_cons, List.length_cons, s4]⟩
        rw [List.all_cons, s3]; rfl
      · cases h
    · cases h
theorem sndO (G' : GOk g gi) (hΦ : PhiOk g n F Φ) : ∀ (e : Es) (ct : Ct) (W : WX) (X : Cx) (x : Option Expr), COk g ct n W X → chkO F gi ct e x = true → PO X x (tO g W (evO Φ e))
  | .nil, ct, W, X, x, c, h => by
    simp only [chkO] at h
    have e := of_decide_eq_true h
    subst e
    exact o_none
  | .cons e r, ct, W, X, x, c, h => by
    simp only [chkO] at h
    split at h
    · rename_i y
      exact o_some (sndE G' hΦ e ct W X y c h).e
    · cases h
theorem sndTg (G' : GOk g gi) (hΦ : PhiOk g n F Φ) : ∀ (t : Tg) (ct : Ct) (W : WX) (X : Cx) (x : Expr), COk g ct n W X → chkTg F gi ct t x = true → PG X x (tG g (tgSlots t) (evTg Φ t))
  | .nm i, ct, W, X, x, c, h => by
    simp only [chkTg] at h
    split at h
    · rename_i y p hv
      rw [vName_ok hv]
      obtain ⟨h1, h2⟩ := and3 h
      exact g_name c (of_decide_eq_true h1) h2
    · cases h
  | .tp ts, ct, W, X, x, c, h => by
    simp only [chkTg] at h
    split at h
    · rename_i l hv
      obtain ⟨k, p, rfl⟩ := vTup_ok hv
      obtain ⟨s1, s2, s3⟩ := sndTgs G' hΦ ts ct W X l c h
      exact g_tup c s2 s3 s1
    · cases h
  | .sb o i, ct, W, X, x, c, h => by
    simp only [chkTg] at h
    split at h
    · rename_i p q hv
      obtain ⟨pos, rfl⟩ := vSub_ok hv
      obtain ⟨h1, h⟩ := and3 h
      obtain ⟨h2, h3⟩ := and3 h
      exact g_sub c (of_decide_eq_true h3) (sndE G' hΦ o ct W X p c h1).e (sndE G' hΦ i ct W X q c h2).e
    · cases h
theorem sndTgs (G' : GOk g gi) (hΦ : PhiOk g n F Φ) : ∀ (t : Tgs) (ct : Ct) (W : WX) (X : Cx) (x : List Expr), COk g ct n W X → chkTgs F gi ct t x = true → PGs X x (tGs g (tgsSlots t) (evTgs Φ t)) ∧ nostar x = true ∧ tgsLen t = x.length
  | .nil, ct, W, X, x, c, h => by
    simp only [chkTgs] at h
    cases x with
    | nil => exact ⟨g_nil, rfl, rfl⟩
    | cons _ _ => simp at h
  | .cons t r, ct, W, X, x, c, h => by
    simp only [chkTgs] at h
    split at h
    · rename_i y l
      obtain ⟨h1, h⟩ := and3 h
      obtain ⟨h2, h3⟩ := and3 h
      have h1 : isStar y = false := by simpa using h1
      obtain ⟨s1, s2, s3⟩ := sndTgs G' hΦ r ct W X l c h3
      refine ⟨g_cons h1 (sndTg G' hΦ t ct W X y c h2) s1, ?_, ?_⟩
      · show (!isStar y && nostar l) = true
        rw [h1, s2]; rfl
      · show tgsLen r + 1 = l.length + 1
        rw [s3]
    · cases h
theorem sndIt (G' : GOk g gi) (hΦ : PhiOk g n F Φ) : ∀ (i : It) (ct : Ct) (W : WX) (X : Cx) (t x : Expr), COk g ct n W X → chkIt F gi ct i t x = true → PI X t x (tI g W (evIt Φ i)) ∧ isSet x = false
  | .val e, ct, W, X, t, x, c, h => by
    simp only [chkIt] at h
    obtain ⟨h1, h2⟩ := and3 h
    exact ⟨i_val c (sndE G' hΦ e ct W X x c h2).e, by simpa using h1⟩
  | .rng1 b, ct, W, X, t, x, c, h => by
    simp only [chkIt] at h
    split at h
    · rename_i y p pos hv
      rw [vCall_ok hv]
      obtain ⟨h1, h⟩ := and3 h
      obtain ⟨h2, h3⟩ := and3 h
      obtain ⟨hg, q, rfl⟩ := gl_blt c h1
      exact ⟨i_rng1 c G' hg (by simpa using h2) (sndE G' hΦ b ct W X p c h3).e, rfl⟩
    · cases h
  | .rng a b, ct, W, X, t, x, c, h => by
    simp only [chkIt] at h
    split at h
    · rename_i y p q pos hv
      rw [vCall_ok hv]
      obtain ⟨h1, h⟩ := and3 h
      obtain ⟨h2, h⟩ := and3 h
      obtain ⟨h3, h⟩ := and3 h
      obtain ⟨h4, h5⟩ := and3 h
      obtain ⟨hg, q, rfl⟩ := gl_blt c h1
      exact ⟨i_rng c G' hg (by simpa using h2) (by simpa using h3) (sndE G' hΦ a ct W X p c h4).e (sndE G' hΦ b ct W X _ c h5).e, rfl⟩
    · cases h
  | .zip a b, ct, W, X, t, x, c, h => by
    simp only [chkIt] at h
    split at h
    · rename_i y p q pos hv
      rw [vCall_ok hv]
      obtain ⟨h0, h⟩ := and3 h
      obtain ⟨h1, h⟩ := and3 h
      obtain ⟨h2, h⟩ := and3 h
      obtain ⟨h3, h⟩ := and3 h
      obtain ⟨h4, h5⟩ := and3 h
      obtain ⟨hg, q, rfl⟩ := gl_blt c h1
      cases t with
      | Tuple l k p => exact ⟨i_zip c G' hg (by simpa using h2) (by simpa using h3) (sndE G' hΦ a ct W X _ c h4).e (sndE G' hΦ b ct W X _ c h5).e, rfl⟩
      | _ => simp [isTupE] at h0
    · cases h
  | .enum a, ct, W, X, t, x, c, h => by
    simp only [chkIt] at h
    split at h
    · rename_i y p pos hv
      rw [vCall_ok hv]
      obtain ⟨h0, h⟩ := and3 h
      obtain ⟨h1, h⟩ := and3 h
      obtain ⟨h2, h3⟩ := and3 h
      obtain ⟨hg, q, rfl⟩ := gl_blt c h1
      cases t with
      | Tuple l k p => exact ⟨i_enum c G' hg (by simpa using h2) (sndE G' hΦ a ct W X _ c h3).e, rfl⟩
      | _ => simp [isTupE] at h0
    · cases h
end
end
end Mini

set_option Elab.async false
set_option linter.all false
set_option maxRecDepth 100000
/-! Mini13: statements. -/
namespace Mini
open PySem L2

/-! ### which stores are swapped -/
def swNames (ts : List Expr) (sc : Scope) : List Str := ts.filterMap fun
    | .Name id pos => if sc.names.lookup id == some .local && pos.line == (ts.head?.map (·.pos.line)).getD 0 then some id else none
    | _ => none
/-- none: it cannot be told -/
def swS (ts vs : List Expr) (sc : Scope) : Option (Option (List Str)) :=
  if !(ts.length == 2 || ts.length == 3) || vs.length != ts.length then some none
  else if vs.any isStar then some none
  else if (swNames ts sc).length != ts.length || (swNames ts sc).eraseDups.length != (swNames ts sc).length then some none
  else if vs.all (foldedForSure 8) then some none
  else if vs.all (constantsAlone 8) then none
  else some (some (swNames ts sc))
theorem swS_ok {ts vs : List Expr} {sc : Scope} {r : Option (List Str)} {env : PySem.Env} {k1 k2 : Nat} {p1 p2 : Pos} (hs : env.scope = sc) (hk : env.scope.kind = .function) (h : swS ts vs sc = some r) :
    swappedStores [.Tuple ts k1 p1] (.Tuple vs k2 p2) env = pure r := by
  have hbk : env.blockKind = .function := by
    unfold PySem.Env.blockKind
    rw [hk]; rfl
  subst hs
  unfold swS at h
  unfold swappedStores
  simp only [hbk]
  split at h
  · rename_i h1
    cases h
    refine if_pos ?_
    show (!(ts.length == 2 || ts.length == 3) || vs.length != ts.length || (ScopeKind.function != ScopeKind.function)) = true
    rw [h1]; rfl
  · rename_i h1
    refine (if_neg ?_).trans ?_
    · intro z
      apply h1
      have z : (!(ts.length == 2 || ts.length == 3) || vs.length != ts.length || (ScopeKind.function != ScopeKind.function)) = true := z
      rcases Bool.or_eq_true_iff.mp z with z | z
      · exact z
      · exact absurd z (by decide)
    · split at h
      · rename_i h2
        cases h
        exact if_pos h2
      · rename_i h2
        refine (if_neg h2).trans ?_
        split at h
        · rename_i h3
          cases h
          exact if_pos h3
        · rename_i h3
          refine (if_neg h3).trans ?_
          split at h
          · rename_i h4
            cases h
            exact if_pos h4
          · rename_i h4
            refine (if_neg h4).trans ?_
            split at h
            · cases h
            · rename_i h5
              cases h
              exact if_neg h5
end Mini

set_option Elab.async false
set_option linter.all false
set_option maxRecDepth 100000
/-! Mini14: statements, checked and sound. -/
namespace Mini
open PySem L2
def vAsg : Stmt → Option (List Expr × Expr × Pos) | .Assign t v p => some (t, v, p) | _ => none
def vExp : Stmt → Option (Expr × Pos) | .Expr e p => some (e, p) | _ => none
def vRet : Stmt → Option (Option Expr) | .Return e _ => some e | _ => none
def vIfS : Stmt → Option (Expr × List Stmt × List Stmt) | .If c a b _ => some (c, a, b) | _ => none
def vFor : Stmt → Option (Expr × Expr × List Stmt × List Stmt) | .For t i b o _ => some (t, i, b, o) | _ => none
def vWhl : Stmt → Option (Expr × List Stmt × List Stmt) | .While c b o _ => some (c, b, o) | _ => none
def vRse : Stmt → Option (Option Expr × Option Expr) | .Raise e c _ => some (e, c) | _ => none
def isPas : Stmt → Bool | .Pass _ => true | _ => false
def isBrk : Stmt → Bool | .Break _ => true | _ => false
def isCnt : Stmt → Bool | .Continue _ => true | _ => false
section
variable {x : Stmt}
theorem vAsg_ok {t : List Expr} {v : Expr} {p : Pos} (h : vAsg x = some (t, v, p)) : x = .Assign t v p := by cases x <;> simp_all [vAsg]
theorem vExp_ok {e : Expr} {p : Pos} (h : vExp x = some (e, p)) : x = .Expr e p := by cases x <;> simp_all [vExp]
theorem vRet_ok {e : Option Expr} (h : vRet x = some e) : ∃ p, x = .Return e p := by cases x <;> simp_all [vRet]
theorem vIfS_ok {c : Expr} {a b : List Stmt} (h : vIfS x = some (c, a, b)) : ∃ p, x = .If c a b p := by cases x <;> simp_all [vIfS]
theorem vFor_ok {t i : Expr} {a b : List Stmt} (h : vFor x = some (t, i, a, b)) : ∃ p, x = .For t i a b p := by cases x <;> simp_all [vFor]
theorem vWhl_ok {c : Expr} {a b : List Stmt} (h : vWhl x = some (c, a, b)) : ∃ p, x = .While c a b p := by cases x <;> simp_all [vWhl]
theorem vRse_ok {a b : Option Expr} (h : vRse x = some (a, b)) : ∃ p, x = .Raise a b p := by cases x <;> simp_all [vRse]
theorem isPas_ok (h : isPas x = true) : ∃ p, x = .Pass p := by cases x <;> simp_all [isPas]
theorem isBrk_ok (h : isBrk x = true) : ∃ p, x = .Break p := by cases x <;> simp_all [isBrk]
theorem isCnt_ok (h : isCnt x = true) : ∃ p, x = .Continue p := by cases x <;> simp_all [isCnt]
end
/-- a class of exceptions without own parts -/
def XcOk (g : G) (c : Str) : Prop := ∃ (C : Addr) (B newId initId : String) (bm : List Value), g.mg c = some (.ref C) ∧ ExcBaseFacts B newId initId bm ∧ PySem.W.excIn g.K C bm newId = true ∧ PySem.W.keepIn g.K (.ref C) = true ∧
  PySem.W.subIn g.K (.ref C) (.type "BaseException") = some true ∧ PySem.W.typeIn g.K (.ref C) = some (.type "type")
structure SOk (g : G) (ct : Ct) (n : Nat) (W : WX) (X : Cx) : Prop extends COk g ct n W X where
  own : PassesOwn (model X.prog X.w) X.A X.env X.xe
  kind : ct.sc.kind = .function

/-! ### pieces -/
section
variable {g : G} {ct : Ct} {n : Nat} {W : WX} {X : Cx} {a b : Expr} {ma : Env → M PV} {pos : Pos} {Φ : Str → List PV → M PV}
theorem q_nil : PSs X [] (tS g W (exSs Φ .nil)) := PSs.wk pss_nil fun D σ H ⟨io, ρ, s, E, S, h⟩ => h io H σ (Gr.refl _ _) S E
theorem q_cons {st : Stmt} {rest : List Stmt} {m : S} {r : Ss} (h1 : PS X st (tS g W (exS Φ m))) (h2 : PSs X rest (tS g W (exSs Φ r))) : PSs X (st :: rest) (tS g W (exSs Φ (.cons m r))) := by
  refine PSs.wk (pss_cons h1 h2) fun D σ H ⟨io, ρ, s, E, S, h⟩ => ⟨io, ρ, s, E, S, ?_⟩
  simp only [exSs] at h
  cases e : exS Φ m ρ s with
  | stuck => rw [e] at h; exact h
  | exc x ρ1 s1 => rw [e] at h; exact h
  | ok f s1 =>
    rw [e] at h
    cases f with
    | nx ρ1 => exact fun io' H' σ' gr S' E' => ⟨io', ρ1, s1, E', S', h.gr gr⟩
    | rt v => exact h
    | bk ρ1 => exact h
    | ct ρ1 => exact h
/-- an expression, then what comes of it -/
theorem e_run {m : Env → M PV} {D : Ends} {Q : VK} {f : PV → Store → SR} {io : Io} {H : Hp} {σ : St} {ρ : Env} {s : Store} (E : ERp g io H ρ σ) (S : SRp g io H s)
    (h : OkS g W D io H (match m ρ s with | .ok v s1 => f v s1 | .exc x s1 => .exc x ρ s1 | .stuck => .stuck))
    (k : ∀ io' H' s' v x, ERp g io' H' ρ σ → SRp g io' H' s' → OkS g W D io' H' (f v s') → Rep g io' H' v x → Q x H') : tE g W m σ H Q := by
  refine ⟨io, ρ, s, E, S, ?_⟩
  cases e : m ρ s with
  | stuck => rw [e] at h; exact h
  | exc x s1 => rw [e] at h; exact fun io' H' c d gr S' X' => h io' H' σ c d gr S' (E.grow gr S.sto) X'
  | ok v s1 => rw [e] at h; exact fun io' H' gr S' x r => k io' H' s1 v x (E.grow gr S.sto) S' (h.gr gr) r
theorem q_set {x : Expr} {t : Tg} {e : E} {v : Expr} {sl : List Nat} (he : PE X v (tE g W (evE Φ e))) (hg : PG X x (tG g sl (evTg Φ t)))
    (run : ∀ {te : TE} {gt : TG}, PE X v te → PG X x gt → PS X (.Assign [x] v pos) (tAsg te gt)) : PS X (.Assign [x] v pos) (tS g W (exS Φ (.asg t e))) := by
  refine PS.wk (run he hg) fun D σ H ⟨io, ρ, s, E, S, h⟩ => ?_
  refine e_run (f := fun v s1 => match evTg Φ t v ρ s1 with | .ok ρ' s2 => .ok (.nx ρ') s2 | _ => .stuck) E S h fun io1 H1 s1 v xv E1 S1 h1 r1 => ?_
  refine ⟨io1, ρ, s1, v, E1, S1, r1, ?_⟩
  cases e : evTg Φ t v ρ s1 with
  | stuck => simp only [e] at h1; exact h1
  | exc _ _ => simp only [e] at h1; exact h1.elim
  | ok ρ' s2 => simp only [e] at h1; exact fun io' H' gr S' σ' E' _ => h1 io' H' σ' gr S' E'
theorem asg_of_lead {te : TE} {i : Nat} {t : Tg} {e : E} {st : Stmt} (h : PS X st (tAsg te (gName i))) (ht : t = .nm i) (hl : ∀ σ H Q, tE g W (evE Φ e) σ H Q → te σ H Q) : PS X st (tS g W (exS Φ (.asg t e))) := by
  subst ht
  refine PS.wk h fun D σ H ⟨io, ρ, s, E, S, h⟩ => hl σ H _ ?_
  refine e_run (f := fun v s1 => match evTg Φ (.nm i) v ρ s1 with | .ok ρ' s2 => .ok (.nx ρ') s2 | _ => .stuck) E S h fun io1 H1 s1 v xv E1 S1 h1 r1 => ?_
  simp only [evTg] at h1
  by_cases hi : i < ρ.length
  · rw [if_pos (decide_eq_true hi)] at h1
    exact h1 io1 H1 _ (Gr.refl _ _) S1 (E1.set i r1)
  · rw [if_neg (by simpa using hi)] at h1
    exact h1.elim
theorem q_expr {e : E} {v : Expr} (he : PE X v (tE g W (evE Φ e))) (hc : isComp v = false) : PS X (.Expr v pos) (tS g W (exS Φ (.ex e))) := by
  refine PS.wk (ps_expr he (comp_swaps hc)) fun D σ H ⟨io, ρ, s, E, S, h⟩ => ?_
  exact e_run (f := fun _ s1 => .ok (.nx ρ) s1) E S h fun io1 H1 s1 v xv E1 S1 h1 r1 => h1 io1 H1 σ (Gr.refl _ _) S1 E1
theorem q_ret {e : E} {v : Expr} (he : PE X v (tE g W (evE Φ e))) : PS X (.Return (some v) pos) (tS g W (exS Φ (.ret e))) := by
  refine PS.wk (ps_ret he) fun D σ H ⟨io, ρ, s, E, S, h⟩ => ?_
  exact e_run (f := fun v s1 => .ok (.rt v) s1) E S h fun io1 H1 s1 v xv E1 S1 h1 r1 => h1 io1 H1 xv (Gr.refl _ _) S1 r1
theorem q_retN : PS X (.Return none pos) (tS g W (exS Φ .retN)) := PS.wk ps_retN fun D σ H ⟨io, ρ, s, E, S, h⟩ => h io H _ (Gr.refl _ _) S .non
theorem q_pas : PS X (.Pass pos) (tS g W (exS Φ .pas)) := PS.wk ps_pass fun D σ H ⟨io, ρ, s, E, S, h⟩ => h io H σ (Gr.refl _ _) S E
theorem q_brk : PS X (.Break pos) (tS g W (exS Φ .brk)) := PS.wk ps_break fun D σ H ⟨io, ρ, s, E, S, h⟩ => h io H σ (Gr.refl _ _) S E
theorem q_cnt : PS X (.Continue pos) (tS g W (exS Φ .cnt)) := PS.wk ps_continue fun D σ H ⟨io, ρ, s, E, S, h⟩ => h io H σ (Gr.refl _ _) S E
/-- a test, then what comes of it -/
theorem t_run {m : Env → M Bool} {D : Ends} {Q : Bool → Hp → Prop} {f : Bool → Store → SR} {io : Io} {H : Hp} {σ : St} {ρ : Env} {s : Store} (E : ERp g io H ρ σ) (S : SRp g io H s)
    (h : OkS g W D io H (match m ρ s with | .ok true s1 => f true s1 | .ok false s1 => f false s1 | .exc x s1 => .exc x ρ s1 | .stuck => .stuck))
    (k : ∀ io' H' s' v, Gr io H io' H' → ERp g io' H' ρ σ → SRp g io' H' s' → OkS g W D io' H' (f v s') → Q v H') : tT g W m σ H Q := by
  refine ⟨io, ρ, s, E, S, ?_⟩
  cases e : m ρ s with
  | stuck => rw [e] at h; exact h
  | exc x s1 => rw [e] at h; exact fun io' H' c d gr S' X' => h io' H' σ c d gr S' (E.grow gr S.sto) X'
  | ok v s1 =>
    rw [e] at h
    cases v with
    | true => exact fun io' H' gr S' => k io' H' s1 true gr (E.grow gr S.sto) S' (h.gr gr)
    | false => exact fun io' H' gr S' => k io' H' s1 false gr (E.grow gr S.sto) S' (h.gr gr)
theorem q_if {e : E} {c : Expr} {p q : List Stmt} {u v : Ss} (hc : PT X c (tT g W fun ρ => (evE Φ e ρ).bnd truthM)) (hp : PSs X p (tS g W (exSs Φ u))) (hq : PSs X q (tS g W (exSs Φ v))) : PS X (.If c p q pos) (tS g W (exS Φ (.iff e u v))) := by
  refine PS.wk (ps_if hc hp hq) fun D σ H ⟨io, ρ, s, E, S, h⟩ => ?_
  refine t_run (m := fun ρ => (evE Φ e ρ).bnd truthM) (f := fun k s1 => if k = true then exSs Φ u ρ s1 else exSs Φ v ρ s1) E S h fun io1 H1 s1 k gr E1 S1 h1 => ?_
  cases k with
  | true => exact ⟨io1, ρ, s1, E1, S1, h1⟩
  | false => exact ⟨io1, ρ, s1, E1, S1, h1⟩
theorem for_loop {J : L2.It} {w : Walk} {D : Ends} {σ : St} {sl : List Nat} {ρ : Env} {tm : PV → Env → M Env} {body : MS} {io1 : Io} {H1 : Hp} {s1 : Store} (hJ : WalkM g J w io1 H1) (E1 : ERp g io1 H1 ρ σ) (S1 : SRp g io1 H1 s1) (h : OkS g W D io1 H1 (forGo w.2 tm body w.1 ρ s1)) :
    ∃ Wv : Nat → Nat → St → Hp → Prop, (∃ m, Wv 0 m σ H1) ∧ ∀ i m σ H, Wv i m σ H →
      (J.stop i H ∧ D.nx σ H) ∨ (J.go i H ∧ ∃ N : St → Hp → Prop, (∀ σ' H', N σ' H' → ∃ m', m' < m ∧ Wv (i + 1) m' σ' H') ∧ ∀ x H', J.yld i H x H' → tG g sl tm x σ H' fun σ2 H2 => tS g W body { D with nx := N, ct := N, bk := D.nx } σ2 H2) := by
  refine ⟨fun i m σ H => m = w.1.length - i ∧ i ≤ w.1.length ∧ ∃ io2 ρ2 s2, Gr io1 H1 io2 H ∧ ERp g io2 H ρ2 σ ∧ SRp g io2 H s2 ∧ OkS g W D io2 H (forGo w.2 tm body (w.1.drop i) ρ2 s2),
    ⟨w.1.length, by simp, Nat.zero_le _, io1, ρ, s1, Gr.refl _ _, E1, S1, by simpa using h⟩, ?_⟩
  rintro i m σ H ⟨rfl, hi, io2, ρ2, s2, gr2, E2, S2, h2⟩
  by_cases hlt : i < w.1.length
  · obtain ⟨p, hp⟩ : ∃ p, w.1[i]? = some p := ⟨_, List.getElem?_eq_getElem hlt⟩
    have hdrop : w.1.drop i = p :: w.1.drop (i + 1) := by
      rw [List.drop_eq_getElem_cons hlt]
      rw [List.getElem?_eq_getElem hlt] at hp
      rw [Option.some.inj hp]
    rw [hdrop] at h2
    simp only [forGo] at h2
    by_cases hst : stays w.2 s2 = true
    · rw [if_pos hst] at h2
      obtain ⟨hgo, hyld⟩ := hJ.go io2 H s2 i (gr2.mv S1.sto) S2 hst hlt
      refine .inr ⟨hgo, fun σ' H' => i + 1 ≤ w.1.length ∧ ∃ io3 ρ3 s3, Gr io1 H1 io3 H' ∧ ERp g io3 H' ρ3 σ' ∧ SRp g io3 H' s3 ∧ OkS g W D io3 H' (forGo w.2 tm body (w.1.drop (i + 1)) ρ3 s3), fun σ' H' ⟨k1, k2⟩ => ⟨w.1.length - (i + 1), by omega, rfl, k1, k2⟩, fun x H' hx => ?_⟩
      obtain ⟨gr3, S3, p', hp', rp⟩ := hyld x H' hx
      rw [hp] at hp'; cases hp'
      refine ⟨io2, ρ2, s2, p, E2.grow gr3 S2.sto, S3, rp, ?_⟩
      cases eb : tm p ρ2 s2 with
      | stuck => rw [eb] at h2; exact h2
      | exc _ _ => rw [eb] at h2; exact h2.elim
      | ok ρ4 s4 =>
        rw [eb] at h2
        simp only at h2
        intro io4 H4 gr4 S4 σ4 E4 _
        refine ⟨io4, ρ4, s4, E4, S4, ?_⟩
        have h3 := h2.gr (gr3.trans gr4)
        have gr14 := (gr2.trans gr3).trans gr4
        cases ee : body ρ4 s4 with
        | stuck => rw [ee] at h3; exact h3
        | exc x ρ5 s5 => rw [ee] at h3; exact h3
        | ok f s5 =>
          rw [ee] at h3
          cases f with
          | nx ρ5 => exact fun io5 H5 σ5 gr5 S5 E5 => ⟨hlt, io5, ρ5, s5, gr14.trans gr5, E5, S5, OkS.gr h3 gr5⟩
          | ct ρ5 => exact fun io5 H5 σ5 gr5 S5 E5 => ⟨hlt, io5, ρ5, s5, gr14.trans gr5, E5, S5, OkS.gr h3 gr5⟩
          | bk ρ5 => exact h3
          | rt v => exact h3
    · rw [if_neg hst] at h2; exact h2.elim
  · have ei : i = w.1.length := by omega
    subst ei
    rw [List.drop_length] at h2
    simp only [forGo] at h2
    by_cases hst : stays w.2 s2 = true
    · rw [if_pos hst] at h2
      exact .inl ⟨hJ.stop io2 H s2 (gr2.mv S1.sto) S2 hst, h2 io2 H σ (Gr.refl _ _) S2 E2⟩
    · rw [if_neg hst] at h2; exact h2.elim
theorem q_for {t i : Expr} {tg : Tg} {it : It} {body : List Stmt} {u : Ss} {sl : List Nat} (c : SOk g ct n W X) (hi : PI X t i (tI g W (evIt Φ it))) (hs : isSet i = false) (hg : PG X t (tG g sl (evTg Φ tg))) (hb : PSs X body (tS g W (exSs Φ u))) :
    PS X (.For t i body [] pos) (tS g W (exS Φ (.forr tg it u))) := by
  refine PS.wk (ps_for c.own c.calm hi hg hb (set_fold hs)) fun D σ H ⟨io, ρ, s, E, S, h⟩ => ?_
  refine ⟨io, ρ, s, E, S, ?_⟩
  simp only [exS] at h
  cases e : evIt Φ it ρ s with
  | stuck => rw [e] at h; exact h
  | exc x s1 => rw [e] at h; exact fun io' H' c d gr S' X' => h io' H' σ c d gr S' (E.grow gr S.sto) X'
  | ok w s1 =>
    rw [e] at h
    intro io1 H1 gr S1 J hJ
    exact for_loop hJ (E.grow gr S.sto) S1 (OkS.gr h gr)
theorem q_whl {k : Nat} {e : E} {d : Expr} {body : List Stmt} {u : Ss} (c : SOk g ct n W X) (hc : PT X d (tT g W fun ρ => (evE Φ e ρ).bnd truthM)) (hb : PSs X body (tS g W (exSs Φ u))) : PS X (.While d body [] pos) (tS g W (exS Φ (.whl k e u))) := by
  refine PS.wk (ps_while c.own hc hb) fun D σ H ⟨io, ρ, s, E, S, h⟩ => ?_
  refine ⟨fun m σ H => ∃ io ρ s, ERp g io H ρ σ ∧ SRp g io H s ∧ OkS g W D io H (whlGo (fun ρ => (evE Φ e ρ).bnd truthM) (exSs Φ u) m ρ s), ⟨k, io, ρ, s, E, S, h⟩, ?_⟩
  rintro m σ1 H1 ⟨io1, ρ1, s1, E1, S1, h1⟩
  cases m with
  | zero => exact h1.elim
  | succ m =>
    simp only [whlGo] at h1
    refine ⟨io1, ρ1, s1, E1, S1, ?_⟩
    show Ok g W σ1 io1 H1 _ (((evE Φ e ρ1).bnd truthM) s1)
    cases et : ((evE Φ e ρ1).bnd truthM) s1 with
    | stuck => rw [et] at h1; exact h1
    | exc x s2 => rw [et] at h1; exact fun io' H' c d gr S' X' => h1 io' H' σ1 c d gr S' (E1.grow gr S1.sto) X'
    | ok b s2 =>
      rw [et] at h1
      cases b with
      | false => exact fun io' H' gr S' => h1 io' H' σ1 gr S' (E1.grow gr S1.sto)
      | true =>
        simp only at h1
        intro io2 H2 gr2 S2
        dsimp only
        rw [if_pos rfl]
        refine ⟨fun σ' H' => ∃ io ρ s, ERp g io H' ρ σ' ∧ SRp g io H' s ∧ OkS g W D io H' (whlGo (fun ρ => (evE Φ e ρ).bnd truthM) (exSs Φ u) m ρ s), fun σ' H' q => ⟨m, Nat.lt_succ_self _, q⟩, ?_⟩
        refine ⟨io2, ρ1, s2, E1.grow gr2 S1.sto, S2, ?_⟩
        have h3 := OkS.gr h1 gr2
        cases ee : exSs Φ u ρ1 s2 with
        | stuck => rw [ee] at h3; exact h3
        | exc x ρ5 s5 => rw [ee] at h3; exact h3
        | ok f s5 =>
          rw [ee] at h3
          cases f with
          | nx ρ5 => exact fun io5 H5 σ5 gr5 S5 E5 => ⟨io5, ρ5, s5, E5, S5, OkS.gr h3 gr5⟩
          | ct ρ5 => exact fun io5 H5 σ5 gr5 S5 E5 => ⟨io5, ρ5, s5, E5, S5, OkS.gr h3 gr5⟩
          | bk ρ5 => exact h3
          | rt v => exact h3
theorem q_rse {x m : Str} {j : Nat} {p p2 p3 : Pos} (c : SOk g ct n W X) (hx : XcOk g x) (hg : Gl X x) (hn : okN x = true) : PS X (.Raise (some (.Call (.Name x p) [.Constant (.str m) j p2] [] p3)) none pos) (tS g W (exS Φ (.rse x))) := by
  obtain ⟨C, B, newId, initId, bm, hm, F, q, k, h1, h2⟩ := hx
  obtain ⟨n1, _⟩ := Bool.and_eq_true_iff.mp hn
  refine PS.wk (ps_raise c.calm c.tk (pmk_own F (by rw [c.K]; exact q) (by rw [c.mg]; exact hm) (by rw [c.K]; exact k) (raises_own (by rw [c.K]; exact h1) (by rw [c.K]; exact h2)) hg (by simpa using n1))) fun D σ H ⟨io, ρ, s, E, S, h⟩ => ?_
  exact h io H σ _ _ (Gr.refl _ _) S E (.own0 hm)
theorem a_run {m : Env → M (List PV)} {D : Ends} {Q : List V → Hp → Prop} {f : List PV → Store → SR} {io : Io} {H : Hp} {σ : St} {ρ : Env} {s : Store} (E : ERp g io H ρ σ) (S : SRp g io H s)
    (h : OkS g W D io H (match m ρ s with | .ok v s1 => f v s1 | .exc x s1 => .exc x ρ s1 | .stuck => .stuck))
    (k : ∀ io' H' s' v x, ERp g io' H' ρ σ → SRp g io' H' s' → OkS g W D io' H' (f v s') → Reps g io' H' v x → Q x H') : tA g W m σ H Q := by
  refine ⟨io, ρ, s, E, S, ?_⟩
  cases e : m ρ s with
  | stuck => rw [e] at h; exact h
  | exc x s1 => rw [e] at h; exact fun io' H' c d gr S' X' => h io' H' σ c d gr S' (E.grow gr S.sto) X'
  | ok v s1 => rw [e] at h; exact fun io' H' gr S' x r => k io' H' s1 v x (E.grow gr S.sto) S' (h.gr gr) r
theorem q_par2 {i j : Nat} {es : Es} {st : Stmt} (h : PS X st (tPar i j (tA g W (evEs Φ es)))) : PS X st (tS g W (exS Φ (.par [i, j] es))) := by
  refine PS.wk h fun D σ H ⟨io, ρ, s, E, S, h⟩ => ?_
  refine a_run (f := fun vs s1 => if decide (vs.length = [i, j].length) then .ok (.nx (setAll [i, j] vs ρ)) s1 else .stuck) E S h fun io1 H1 s1 v x E1 S1 h1 r1 => ?_
  by_cases hl : v.length = [i, j].length
  · rw [if_pos (decide_eq_true hl)] at h1
    match v, hl with
    | [u, w], _ =>
      obtain ⟨x1, x2, rfl, r2, r3⟩ := r1.two
      exact ⟨x1, x2, rfl, h1 io1 H1 _ (Gr.refl _ _) S1 ((E1.set i r2).set j r3)⟩
  · rw [if_neg (by simpa using hl)] at h1; exact h1.elim
theorem q_par3 {i j l : Nat} {es : Es} {st : Stmt} (h : PS X st (tPar3 i j l (tA g W (evEs Φ es)))) : PS X st (tS g W (exS Φ (.par [i, j, l] es))) := by
  refine PS.wk h fun D σ H ⟨io, ρ, s, E, S, h⟩ => ?_
  refine a_run (f := fun vs s1 => if decide (vs.length = [i, j, l].length) then .ok (.nx (setAll [i, j, l] vs ρ)) s1 else .stuck) E S h fun io1 H1 s1 v x E1 S1 h1 r1 => ?_
  by_cases hl : v.length = [i, j, l].length
  · rw [if_pos (decide_eq_true hl)] at h1
    match v, hl with
    | [u, w, z], _ =>
      cases r1 with
      | cons r2 r1 =>
        obtain ⟨x1, x2, rfl, r3, r4⟩ := r1.two
        exact ⟨_, x1, x2, rfl, h1 io1 H1 _ (Gr.refl _ _) S1 (((E1.set i r2).set j r3).set l r4)⟩
  · rw [if_neg (by simpa using hl)] at h1; exact h1.elim
end
end Mini

set_option Elab.async false
set_option linter.all false
set_option maxRecDepth 100000
/-! Mini15: the checker of statements, sound. -/
namespace Mini
open PySem L2
/-- name = comprehension: is the value's list stored within? -/
def swB (sc : Scope) (y : Str) (py : Pos) (v : Expr) : Bool := match vLc v with
  | some (_, _, scope, p) => decide (sc.names.lookup y = some .local) && ((py.line == p.line) && !(scope.names.any fun (n, k) => n == y && (k == .local || k == .cell)))
  | none => false
def isLc (v : Expr) : Bool := (vLc v).isSome
def isLcE : E → Bool | .lc .. => true | .lc2 .. => true | _ => false
def isTg (x : Expr) : Bool := match x with | .Tuple .. => true | .Subscript .. => true | _ => false
def asgOk (sc : Scope) (x v : Expr) : Bool := isTg x && (match vTup x, vTup v with
  | some ts, some vs => decide (swS ts vs sc = some none)
  | _, _ => true)
def nmsOf (ts : List Expr) : List Str := ts.filterMap fun t => (vName t).map (·.1)
theorem sw_no {elt : Expr} {gs : List Comprehension} {scope : Scope} {p py : Pos} {y : Str} {l : Nat} {env : PySem.Env} {sc : Scope} (hs : env.scope = sc) (h : swB sc y py (.ListComp elt gs scope p) = false) :
    swapsWith (.ListComp elt gs scope p) (some (.Name y py)) l env = pure false := by
  subst hs
  unfold swB at h
  simp only [vLc] at h
  unfold swapsWith
  show pure (env.blockKind == .function && env.kindOf y == some .local && py.line == p.line && !(scope.names.any fun (n, k) => n == y && (k == .local || k == .cell))) = pure false
  congr 1
  have e : (env.kindOf y == some .local) = decide (env.scope.names.lookup y = some .local) := by
    unfold PySem.Env.kindOf
    cases q : env.scope.names.lookup y with
    | none => rfl
    | some k => cases k <;> rfl
  rw [e]
  cases h1 : decide (env.scope.names.lookup y = some .local) with
  | false => simp
  | true =>
    rw [h1] at h
    rw [Bool.true_and] at h
    rw [Bool.and_assoc, h, Bool.and_false]
theorem tg_plain {x v : Expr} {l : Nat} {env : PySem.Env} (h : isTg x = true) : swapsWithSole [x] v l env = pure false := by
  show swapsWith v (some x) l env = pure false
  cases x with
  | Tuple _ _ _ => cases v <;> rfl
  | Subscript _ _ _ => cases v <;> rfl
  | _ => simp [isTg] at h
theorem tg_stores {x v : Expr} {env : PySem.Env} {sc : Scope} (hs : env.scope = sc) (hk : env.scope.kind = .function) (h : asgOk sc x v = true) : swappedStores [x] v env = pure none := by
  obtain ⟨h1, h2⟩ := and3 h
  cases x with
  | Tuple ts k p =>
    cases v with
    | Tuple vs k2 p2 => exact swS_ok hs hk (of_decide_eq_true h2)
    | _ => rfl
  | Subscript _ _ _ => rfl
  | _ => simp [isTg] at h1
theorem tg_each {x : Expr} {env : PySem.Env} (h : isTg x = true) : (assignEach [x] env).map (·.2) = [assign x env] := by
  cases x <;> first | rfl | (simp [isTg] at h)
section
variable (F : Fs) (gi : List (Str × Int)) (xs : List Str)
mutual
def chkS (ct : Ct) : S → Stmt → Bool
  | .asg t e, st => match vAsg st with
    | some ([x], v, _) => (match vName x with
      | some (y, py) => (match t with
        | .nm i => decide (ct.N[i]? = some y) && (storB ct y && (chkE F gi ct e v && ((!isComp v || isLc v) && (!swB ct.sc y py v || isLcE e))))
        | _ => false)
      | none => chkTg F gi ct t x && (chkE F gi ct e v && asgOk ct.sc x v))
    | _ => false
  | .par ix es, st => match vAsg st with
    | some ([x], v, _) => (match vTup x, vTup v with
      | some ts, some vs => (match ix, ts, vs with
        | [i, j], [t1, t2], [_, _] => (match vName t1, vName t2 with
          | some (y1, _), some (y2, _) => decide (ct.N[i]? = some y1) && (decide (ct.N[j]? = some y2) && (decide (i ≠ j) && (decide (ct.sc.names.lookup y1 = some .local) && (decide (ct.sc.names.lookup y2 = some .local) && (decide (swS ts vs ct.sc = some (some [y1, y2])) && chkEs F gi ct es vs)))))
          | _, _ => false)
        | [i, j, l], [t1, t2, t3], [_, _, _] => (match vName t1, vName t2, vName t3 with
          | some (y1, _), some (y2, _), some (y3, _) => decide (ct.N[i]? = some y1) && (decide (ct.N[j]? = some y2) && (decide (ct.N[l]? = some y3) && (decide (i ≠ j) && (decide (i ≠ l) && (decide (j ≠ l) && (decide (ct.sc.names.lookup y1 = some .local) && (decide (ct.sc.names.lookup y2 = some .local) && (decide (ct.sc.names.lookup y3 = some .local) && (decide (swS ts vs ct.sc = some (some [y1, y2, y3])) && chkEs F gi ct es vs)))))))))
          | _, _, _ => false)
        | _, _, _ => false)
      | _, _ => false)
    | _ => false
  | .ex e, st => match vExp st with
    | some (v, _) => !isComp v && chkE F gi ct e v
    | none => false
  | .ret e, st => match vRet st with
    | some (some v) => chkE F gi ct e v
    | _ => false
  | .retN, st => match vRet st with
    | some none => true
    | _ => false
  | .iff c a b, st => match vIfS st with
    | some (x, p, q) => chkE F gi ct c x && (chkSs ct a p && chkSs ct b q)
    | none => false
  | .forr t it u, st => match vFor st with
    | some (x, i, p, []) => chkTg F gi ct t x && (chkIt F gi ct it x i && chkSs ct u p)
    | _ => false
  | .whl _ c u, st => match vWhl st with
    | some (x, p, []) => chkE F gi ct c x && chkSs ct u p
    | _ => false
  | .pas, st => isPas st
  | .brk, st => isBrk st
  | .cnt, st => isCnt st
  | .rse c, st => match vRse st with
    | some (some x, none) => (match vCall x with
      | some (y, [z], [], _) => bltB ct y c && (okN c && (decide (c ∈ xs) && (match vConst z with | some (.str _) => true | _ => false)))
      | _ => false)
    | _ => false
def chkSs (ct : Ct) : Ss → List Stmt → Bool
  | .nil, l => l.isEmpty
  | .cons a r, l => match l with
    | x :: l => chkS ct a x && chkSs ct r l
    | [] => false
end
end
section
variable {g : G} {n : Nat} {F : Fs} {gi : List (Str × Int)} {xs : List Str} {Φ : Str → List PV → M PV}
mutual
theorem sndS (G' : GOk g gi) (hΦ : PhiOk g n F Φ) (hX : ∀ x ∈ xs, XcOk g x) : ∀ (e : S) (ct : Ct) (W : WX) (X : Cx) (st : Stmt), SOk g ct n W X → chkS F gi xs ct e st = true → PS X st (tS g W (exS Φ e))
  | .asg t e, ct, W, X, st, c, h => by
    simp only [chkS] at h
    split at h
    · rename_i x v pos hv
      rw [vAsg_ok hv]
      split at h
      · rename_i y py hy
        split at h
        · rename_i i
          obtain ⟨h1, h⟩ := and3 h
          obtain ⟨h2, h⟩ := and3 h
          obtain ⟨h3, h⟩ := and3 h
          obtain ⟨h4, h5⟩ := and3 h
          rw [vName_ok hy]
          have hN : X.N[i]? = some y := by rw [c.N]; exact of_decide_eq_true h1
          have nd : X.N.Nodup := by rw [c.N]; exact c.nd
          have ksc : X.env.scope.kind = .function := by rw [c.sc]; exact c.kind
          obtain ⟨hL, hf⟩ := stor_ok c.toCOk h2
          by_cases hsw : swB ct.sc y py v = true
          · rw [hsw] at h5
            have h5 : isLcE e = true := by simpa using h5
            unfold swB at hsw
            split at hsw
            · rename_i elt gs scope p hlc
              obtain ⟨w1, w⟩ := and3 hsw
              obtain ⟨w2, w3⟩ := and3 w
              have hyl : X.env.scope.names.lookup y = some .local := by rw [c.sc]; exact of_decide_eq_true w1
              have w3 : (scope.names.any fun (n, k) => n == y && (k == .local || k == .cell)) = false := by simpa using w3
              cases e with
              | lc mu elt tg it ifs own =>
                simp only [chkE] at h3
                split at h3
                · rename_i e t i' fs scope' pos' hv'
                  rw [hlc] at hv'; cases hv'
                  rw [vLc_ok hlc]
                  obtain ⟨h1', h⟩ := and3 h3
                  obtain ⟨h2', h⟩ := and3 h
                  obtain ⟨h3', h⟩ := and3 h
                  obtain ⟨h4', h⟩ := and3 h
                  obtain ⟨h5', h⟩ := and3 h
                  obtain ⟨h6', h7'⟩ := and3 h
                  obtain ⟨hi, hs⟩ := sndIt G' hΦ it ct W X t i' c.toCOk h3'
                  have ok : BlkOk X.N X.env.scope scope own := by rw [c.N, c.sc]; exact blkOk_by h1'
                  have B := fun s H C cl fp => c.toCOk.blk s H scope C cl fp
                  exact asg_of_lead (ps_setLc c.calm nd hN hyl (sw_true ksc hyl w2 w3) hi ok (fun s H C cl fp => sndTg G' hΦ tg _ _ _ _ (B s H C cl fp) h4')
                    (fun s H C cl fp => (sndEs G' hΦ ifs _ _ _ _ (B s H C cl fp) h5').2.2 (of_decide_eq_true h6')) (fun s H C cl fp => (sndE G' hΦ elt _ _ _ _ (B s H C cl fp) h7').e) (set_fold hs)) rfl fun σ H Q h => lc_lead (subL_ok h2') h
                · cases h3
              | lc2 mu elt tg it ifs tg2 it2 ifs2 own own2 =>
                simp only [chkE] at h3
                split at h3
                · rename_i e t i' fs t2 i2 fs2 scope' pos' hv'
                  rw [hlc] at hv'; cases hv'
                  rw [vLc_ok hlc]
                  obtain ⟨h1, h⟩ := and3 h3
                  obtain ⟨h2, h⟩ := and3 h
                  obtain ⟨h3, h⟩ := and3 h
                  obtain ⟨h4, h⟩ := and3 h
                  obtain ⟨h5, h⟩ := and3 h
                  obtain ⟨h6, h⟩ := and3 h
                  obtain ⟨h7, h⟩ := and3 h
                  obtain ⟨h8, h⟩ := and3 h
                  obtain ⟨h9, h⟩ := and3 h
                  obtain ⟨k1, h⟩ := and3 h
                  obtain ⟨k2, h⟩ := and3 h
                  obtain ⟨k3, k4⟩ := and3 h
                  obtain ⟨hi, hs⟩ := sndIt G' hΦ it ct W X t i' c.toCOk h3
                  have ok : BlkOk X.N X.env.scope scope own := by rw [c.N, c.sc]; exact blkOk_by h1
                  have B := fun s H C cl fp => c.toCOk.blk s H scope C cl fp
                  have hs2 : isSet i2 = false := it_set h9
                  exact asg_of_lead (ps_setLc2 c.calm nd hN hyl (sw_true ksc hyl w2 w3) hi ok (subL_ok h7) (fun s H C cl fp => sndTg G' hΦ tg _ _ _ _ (B s H C cl fp) h4)
                    (fun s H C cl fp => (sndEs G' hΦ ifs _ _ _ _ (B s H C cl fp) h5).2.2 (of_decide_eq_true h6))
                    (fun s H C cl fp => (sndIt G' hΦ it2 _ _ _ _ _ (B s H C cl fp) h9).1) (fun s H C cl fp => sndTg G' hΦ tg2 _ _ _ _ (B s H C cl fp) k1)
                    (fun s H C cl fp => (sndEs G' hΦ ifs2 _ _ _ _ (B s H C cl fp) k2).2.2 (of_decide_eq_true k3))
                    (fun s H C cl fp => (sndE G' hΦ elt _ _ _ _ (B s H C cl fp) k4).e) (set_fold hs) (fun env x => set_fold hs2 x)) rfl fun σ H Q h => lc2_lead (subL_ok h2) (subL_ok h8) h
                · cases h3
              | _ => simp [isLcE] at h5
            · cases hsw
          · have hsw : swB ct.sc y py v = false := by simpa using hsw
            have hs : swapsWith v (some (.Name y py)) pos.line X.env = pure false := by
              cases hc : isComp v with
              | false => exact comp_swaps hc
              | true =>
                rw [hc] at h4
                have h4 : isLc v = true := by simpa using h4
                cases v with
                | ListComp elt gs scope p => exact sw_no c.sc hsw
                | _ => simp [isLc, vLc] at h4
            have he := (sndE G' hΦ e ct W X v c.toCOk h3).e
            exact asg_of_lead (ps_set nd hN hL he hs hf) rfl fun σ H Q h => h
        · cases h
      · rename_i hy
        obtain ⟨h1, h⟩ := and3 h
        obtain ⟨h2, h3⟩ := and3 h
        have ht : isTg x = true := (and3 h3).1
        exact q_set (sndE G' hΦ e ct W X v c.toCOk h2).e (sndTg G' hΦ t ct W X x c.toCOk h1) fun he hg => ps_asg he hg (tg_plain ht) (tg_stores c.sc (by rw [c.sc]; exact c.kind) h3) (tg_each ht)
    · cases h
  | .par ix es, ct, W, X, st, c, h => by
    simp only [chkS] at h
    split at h
    · rename_i x v pos hv
      rw [vAsg_ok hv]
      have nd : X.N.Nodup := by rw [c.N]; exact c.nd
      have ksc : X.env.scope.kind = .function := by rw [c.sc]; exact c.kind
      split at h
      · rename_i ts vs hx hvv
        obtain ⟨k1, p1, rfl⟩ := vTup_ok hx
        obtain ⟨k2, p2, rfl⟩ := vTup_ok hvv
        split at h
        · rename_i i j t1 t2 v1 v2
          split at h
          · rename_i y1 q1 y2 q2 n1 n2
            rw [vName_ok n1, vName_ok n2] at h ⊢
            obtain ⟨h1, h⟩ := and3 h
            obtain ⟨h2, h⟩ := and3 h
            obtain ⟨h3, h⟩ := and3 h
            obtain ⟨h4, h⟩ := and3 h
            obtain ⟨h5, h⟩ := and3 h
            obtain ⟨h6, h7⟩ := and3 h
            exact q_par2 (ps_par c.calm nd (by rw [c.N]; exact of_decide_eq_true h1) (by rw [c.N]; exact of_decide_eq_true h2) (of_decide_eq_true h3) (by rw [c.sc]; exact of_decide_eq_true h4) (by rw [c.sc]; exact of_decide_eq_true h5)
              (sndEs G' hΦ es ct W X _ c.toCOk h7).1 (swS_ok c.sc ksc (of_decide_eq_true h6)) rfl)
          · cases h
        · rename_i i j l t1 t2 t3 v1 v2 v3
          split at h
          · rename_i y1 q1 y2 q2 y3 q3 n1 n2 n3
            rw [vName_ok n1, vName_ok n2, vName_ok n3] at h ⊢
            obtain ⟨h1, h⟩ := and3 h
            obtain ⟨h2, h⟩ := and3 h
            obtain ⟨h2', h⟩ := and3 h
            obtain ⟨h3, h⟩ := and3 h
            obtain ⟨h3', h⟩ := and3 h
            obtain ⟨h3'', h⟩ := and3 h
            obtain ⟨h4, h⟩ := and3 h
            obtain ⟨h5, h⟩ := and3 h
            obtain ⟨h5', h⟩ := and3 h
            obtain ⟨h6, h7⟩ := and3 h
            exact q_par3 (ps_par3 c.calm nd (by rw [c.N]; exact of_decide_eq_true h1) (by rw [c.N]; exact of_decide_eq_true h2) (by rw [c.N]; exact of_decide_eq_true h2') (of_decide_eq_true h3) (of_decide_eq_true h3') (of_decide_eq_true h3'')
              (by rw [c.sc]; exact of_decide_eq_true h4) (by rw [c.sc]; exact of_decide_eq_true h5) (by rw [c.sc]; exact of_decide_eq_true h5')
              (sndEs G' hΦ es ct W X _ c.toCOk h7).1 (swS_ok c.sc ksc (of_decide_eq_true h6)) rfl)
          · cases h
        · cases h
      · cases h
    · cases h
  | .ex e, ct, W, X, st, c, h => by
    simp only [chkS] at h
    split at h
    · rename_i v p hv
      rw [vExp_ok hv]
      obtain ⟨h1, h2⟩ := and3 h
      exact q_expr (sndE G' hΦ e ct W X v c.toCOk h2).e (by simpa using h1)
    · cases h
  | .ret e, ct, W, X, st, c, h => by
    simp only [chkS] at h
    split at h
    · rename_i v hv
      obtain ⟨p, rfl⟩ := vRet_ok hv
      exact q_ret (sndE G' hΦ e ct W X v c.toCOk h).e
    · cases h
  | .retN, ct, W, X, st, c, h => by
    simp only [chkS] at h
    split at h
    · rename_i hv
      obtain ⟨p, rfl⟩ := vRet_ok hv
      exact q_retN
    · cases h
  | .iff d a b, ct, W, X, st, c, h => by
    simp only [chkS] at h
    split at h
    · rename_i x p q hv
      obtain ⟨p, rfl⟩ := vIfS_ok hv
      obtain ⟨h1, h⟩ := and3 h
      obtain ⟨h2, h3⟩ := and3 h
      exact q_if (sndE G' hΦ d ct W X x c.toCOk h1).t (sndSs G' hΦ hX a ct W X _ c h2) (sndSs G' hΦ hX b ct W X _ c h3)
    · cases h
  | .forr t it u, ct, W, X, st, c, h => by
    simp only [chkS] at h
    split at h
    · rename_i x i p hv
      obtain ⟨p, rfl⟩ := vFor_ok hv
      obtain ⟨h1, h⟩ := and3 h
      obtain ⟨h2, h3⟩ := and3 h
      obtain ⟨hi, hs⟩ := sndIt G' hΦ it ct W X x i c.toCOk h2
      exact q_for c hi hs (sndTg G' hΦ t ct W X x c.toCOk h1) (sndSs G' hΦ hX u ct W X _ c h3)
    · cases h
  | .whl k d u, ct, W, X, st, c, h => by
    simp only [chkS] at h
    split at h
    · rename_i x p hv
      obtain ⟨p, rfl⟩ := vWhl_ok hv
      obtain ⟨h1, h2⟩ := and3 h
      exact q_whl c (sndE G' hΦ d ct W X x c.toCOk h1).t (sndSs G' hΦ hX u ct W X _ c h2)
    · cases h
  | .pas, ct, W, X, st, c, h => by
    simp only [chkS] at h
    obtain ⟨p, rfl⟩ := isPas_ok h
    exact q_pas
  | .brk, ct, W, X, st, c, h => by
    simp only [chkS] at h
    obtain ⟨p, rfl⟩ := isBrk_ok h
    exact q_brk
  | .cnt, ct, W, X, st, c, h => by
    simp only [chkS] at h
    obtain ⟨p, rfl⟩ := isCnt_ok h
    exact q_cnt
  | .rse d, ct, W, X, st, c, h => by
    simp only [chkS] at h
    split at h
    · rename_i x hv
      obtain ⟨p, rfl⟩ := vRse_ok hv
      split at h
      · rename_i y z pos hv2
        rw [vCall_ok hv2]
        obtain ⟨h1, h⟩ := and3 h
        obtain ⟨h2, h⟩ := and3 h
        obtain ⟨h3, h4⟩ := and3 h
        split at h4
        · rename_i m hm
          obtain ⟨k, q, rfl⟩ := vConst_ok hm
          obtain ⟨hg, q, rfl⟩ := gl_blt c.toCOk h1
          exact q_rse c (hX _ (of_decide_eq_true h3)) hg h2
        · cases h4
      · cases h
    · cases h
theorem sndSs (G' : GOk g gi) (hΦ : PhiOk g n F Φ) (hX : ∀ x ∈ xs, XcOk g x) : ∀ (e : Ss) (ct : Ct) (W : WX) (X : Cx) (st : List Stmt), SOk g ct n W X → chkSs F gi xs ct e st = true → PSs X st (tS g W (exSs Φ e))
  | .nil, ct, W, X, st, c, h => by
    simp only [chkSs] at h
    cases st with
    | nil => exact q_nil
    | cons _ _ => simp at h
  | .cons a r, ct, W, X, st, c, h => by
    simp only [chkSs] at h
    split at h
    · obtain ⟨h1, h2⟩ := and3 h
      exact q_cons (sndS G' hΦ hX a ct W X _ c h1) (sndSs G' hΦ hX r ct W X _ c h2)
    · cases h
end
end
end Mini

set_option Elab.async false
set_option linter.all false
set_option maxRecDepth 100000
/-! Mini16: what a def is bound to. -/
namespace Mini
open PySem L2
theorem lookup_zip_some {α : Type} : ∀ {ps : List Str} {us : List α} {p : Str}, ps.length = us.length → p ∈ ps → ((ps.zip us).lookup p).isSome = true
  | q :: ps, u :: us, p, hl, h => by
    rw [List.zip_cons_cons, List.lookup_cons]
    cases e : p == q with
    | true => rfl
    | false =>
      rcases List.mem_cons.mp h with z | z
      · rw [z] at e; simp at e
      · exact lookup_zip_some (by simpa using hl) z
theorem lookup_cons_ne {α : Type} {q p : Str} {u : α} {l : List (Str × α)} (h : p ≠ q) : ((q, u) :: l).lookup p = l.lookup p := by
  rw [List.lookup_cons]
  cases e : p == q with
  | true => exact absurd (by simpa using e) h
  | false => rfl
theorem filterMap_zip {α : Type} : ∀ {ps : List Str} {us : List α}, ps.Nodup → ps.length = us.length → (ps.filterMap fun n => ((ps.zip us).lookup n).map fun v => (n, v)) = ps.zip us
  | [], _, _, _ => rfl
  | q :: ps, [], _, hl => by simp at hl
  | q :: ps, u :: us, nd, hl => by
    obtain ⟨n1, n2⟩ := List.nodup_cons.mp nd
    rw [List.zip_cons_cons, List.filterMap_cons]
    have e : ((q, u) :: ps.zip us).lookup q = some u := by rw [List.lookup_cons]; simp
    rw [e]
    simp only [Option.map_some]
    congr 1
    have ih := filterMap_zip (us := us) n2 (by simpa using hl)
    have go : ∀ rs : List Str, q ∉ rs → (rs.filterMap fun n => (((q, u) :: ps.zip us).lookup n).map fun v => (n, v)) = rs.filterMap fun n => ((ps.zip us).lookup n).map fun v => (n, v) := by
      intro rs
      induction rs with
      | nil => intro _; rfl
      | cons r rs ih2 =>
        intro hr
        rw [List.filterMap_cons, List.filterMap_cons, lookup_cons_ne (fun z => hr (by rw [z]; exact List.mem_cons_self ..)), ih2 fun z => hr (List.mem_cons_of_mem _ z)]
    exact (go ps n1).trans ih
def plainA (a : Arguments) (ps : List Str) : Bool := decide (a.args.map (·.arg) = ps) && (a.posonlyargs.isEmpty && (a.kwonlyargs.isEmpty && (a.vararg.isNone && (a.kwarg.isNone && decide ps.Nodup))))
theorem bind_plain {x qual : Str} {params : Arguments} {body : List Stmt} {scope : Scope} {kV doc pm cdv ct : Value} {an : Option Addr} {ps : List Str} {us : List Value} (h : plainA params ps = true) (hl : us.length = ps.length) :
    bindArgs (PySem.W.fnOf x qual params body scope .none kV doc pm an cdv ct) ⟨us, []⟩ = pure (ps.zip us) := by
  obtain ⟨h1, h⟩ := and3 h
  obtain ⟨h2, h⟩ := and3 h
  obtain ⟨h3, h⟩ := and3 h
  obtain ⟨h4, h⟩ := and3 h
  obtain ⟨h5, h6⟩ := and3 h
  obtain ⟨po, ar, va, ko, kd, ka, df⟩ := params
  have k1 : ar.map (·.arg) = ps := of_decide_eq_true h1
  have k2 : po = [] := by simpa using h2
  have k3 : ko = [] := by simpa using h3
  have k4 : va = none := by simpa using h4
  have k5 : ka = none := by simpa using h5
  have nd : ps.Nodup := of_decide_eq_true h6
  clear h1 h2 h3 h4 h5 h
  subst k2 k3 k4 k5
  have e0 : seqItems? .none = pure none := rfl
  have e1 : ((ps.take ps.length).filter fun n => ((ps.zip us).lookup n).isNone) = [] := by
    rw [List.take_length, List.filter_eq_nil_iff]
    intro p hp
    have := lookup_zip_some (us := us) hl.symm hp
    cases q : (ps.zip us).lookup p with
    | none => rw [q] at this; cases this
    | some _ => simp
  unfold bindArgs PySem.W.fnOf
  simp only [k1, List.map_nil, List.nil_append, List.append_nil, e0, pure_bind, Option.getD_none, hl, Nat.lt_irrefl, gt_iff_lt, decide_false, Bool.false_and, List.drop_nil, List.length_nil, Nat.sub_zero, e1, List.isEmpty_nil, Bool.not_true, List.zip_nil_right]
  have e2 := filterMap_zip (us := us) nd hl.symm
  rw [List.forIn_nil]
  simp only [pure_bind, k1, List.map_nil, List.nil_append, List.append_nil, Option.getD_none, hl, Nat.lt_irrefl, decide_false, Bool.false_and, List.drop_nil, List.length_nil, Nat.sub_zero, e1, List.isEmpty_nil, Bool.not_true, List.zip_nil_right, List.forIn_nil]
  simp only [Bool.false_eq_true, if_false]
  exact congrArg pure e2

theorem lookup_zip_get {α : Type} : ∀ {ks : List Str} {ws : List α} {i : Nat} {k : Str}, ks.Nodup → ks.length = ws.length → ks[i]? = some k → (ks.zip ws).lookup k = ws[i]?
  | [], _, i, k, _, _, h => by simp at h
  | q :: ks, [], _, _, _, hl, _ => by simp at hl
  | q :: ks, w :: ws, 0, k, nd, hl, h => by
    simp only [List.getElem?_cons_zero, Option.some.injEq] at h
    subst h
    rw [List.zip_cons_cons, List.lookup_cons]; simp
  | q :: ks, w :: ws, i + 1, k, nd, hl, h => by
    obtain ⟨n1, n2⟩ := List.nodup_cons.mp nd
    simp only [List.getElem?_cons_succ] at h ⊢
    have hne : k ≠ q := fun z => n1 (z ▸ List.mem_of_getElem? h)
    rw [List.zip_cons_cons, lookup_cons_ne hne]
    exact lookup_zip_get n2 (by simpa using hl) h
theorem filterMap_perm {α : Type} {ks : List Str} {ws : List α} (nd : ks.Nodup) (hl : ks.length = ws.length) : ∀ {pm : List Nat}, (∀ i ∈ pm, i < ks.length) → ((permV pm ks).filterMap fun n => ((ks.zip ws).lookup n).map fun v => (n, v)) = (permV pm ks).zip (permV pm ws)
  | [], _ => rfl
  | i :: pm, h => by
    have hi := h i (List.mem_cons_self ..)
    have ih := filterMap_perm (ws := ws) nd hl (pm := pm) fun j hj => h j (List.mem_cons_of_mem _ hj)
    have e1 : ks[i]? = some ks[i] := List.getElem?_eq_getElem hi
    have e2 : ws[i]? = some (ws[i]'(by omega)) := List.getElem?_eq_getElem (by omega)
    have a1 : permV (i :: pm) ks = ks[i] :: permV pm ks := by unfold permV; rw [List.filterMap_cons, e1]
    have a2 : permV (i :: pm) ws = ws[i]'(by omega) :: permV pm ws := by unfold permV; rw [List.filterMap_cons, e2]
    rw [a1, a2, List.filterMap_cons, lookup_zip_get nd hl e1, e2, List.zip_cons_cons, ih]
    rfl
theorem kw_step {α : Type} : ∀ (l : List (Str × α)) (acc : List (Str × α)), (∀ p ∈ l, (acc.lookup p.1).isSome = false) → (l.map (·.1)).Nodup → ∀ p r, l = p :: r → (acc.lookup p.1).isSome = false ∧ (∀ q ∈ r, ((acc ++ [p]).lookup q.1).isSome = false) ∧ (r.map (·.1)).Nodup
  | l, acc, h, nd, p, r, e => by
    subst e
    obtain ⟨n1, n2⟩ := List.nodup_cons.mp nd
    refine ⟨h p (List.mem_cons_self ..), fun q hq => ?_, n2⟩
    have h1 := h q (List.mem_cons_of_mem _ hq)
    have e1 : acc.lookup q.1 = none := by simpa using h1
    have hne : (q.1 == p.1) = false := by
      rw [beq_eq_false_iff_ne]
      exact fun z => n1 (List.mem_map.mpr ⟨q, hq, z⟩)
    have : (acc ++ [p]).lookup q.1 = none := by
      induction acc with
      | nil => obtain ⟨p1, p2⟩ := p; show ((p1, p2) :: ([] : List (Str × α))).lookup q.1 = none; rw [List.lookup_cons, hne]; rfl
      | cons a acc ih =>
        obtain ⟨a1, a2⟩ := a
        rw [List.cons_append, List.lookup_cons]
        rw [List.lookup_cons] at e1
        cases hb : q.1 == a1 with
        | true => rw [hb] at e1; cases e1
        | false =>
          rw [hb] at e1
          have e1 : List.lookup q.1 acc = none := e1
          show (acc ++ [p]).lookup q.1 = none
          refine ih (fun z hz => ?_) (by rw [e1]; rfl) e1
          have hz2 := h z hz
          rw [List.lookup_cons] at hz2
          cases hb2 : z.1 == a1 with
          | true => rw [hb2] at hz2; cases hz2
          | false => rw [hb2] at hz2; exact hz2
    rw [this]; rfl
theorem forIn_kw {ps : List Str} {f : Str × Value → List (Str × Value) × List (Str × Value) → Sem (ForInStep (List (Str × Value) × List (Str × Value)))}
    (hf : ∀ (p : Str × Value) acc, p.1 ∈ ps → (acc.lookup p.1).isSome = false → f p (acc, []) = pure (.yield (acc ++ [p], []))) : ∀ (l acc : List (Str × Value)), (∀ p ∈ l, p.1 ∈ ps) → (∀ p ∈ l, (acc.lookup p.1).isSome = false) → (l.map (·.1)).Nodup → forIn l (acc, ([] : List (Str × Value))) f = pure (acc ++ l, [])
  | [], acc, _, _, _ => by rw [List.forIn_nil, List.append_nil]
  | p :: l, acc, h0, h, nd => by
    obtain ⟨a, b, c⟩ := kw_step _ acc h nd p l rfl
    rw [List.forIn_cons, hf p acc (h0 p (List.mem_cons_self ..)) a, pure_bind]
    show forIn l (acc ++ [p], ([] : List (Str × Value))) f = _
    rw [forIn_kw hf l (acc ++ [p]) (fun q hq => h0 q (List.mem_cons_of_mem _ hq)) b c, List.append_assoc]
    rfl
theorem bind_kw {x qual : Str} {params : Arguments} {body : List Stmt} {scope : Scope} {kV doc pm cdv ct : Value} {an : Option Addr} {ps ks : List Str} {pmv : List Nat} {ws : List Value} (h : plainA params ps = true) (hk : kwB ps ks pmv = true) (hl : ws.length = ks.length) :
    bindArgs (PySem.W.fnOf x qual params body scope .none kV doc pm an cdv ct) ⟨[], ks.zip ws⟩ = pure (ps.zip (permV pmv ws)) := by
  obtain ⟨h1, h⟩ := and3 h
  obtain ⟨h2, h⟩ := and3 h
  obtain ⟨h3, h⟩ := and3 h
  obtain ⟨h4, h⟩ := and3 h
  obtain ⟨h5, h6⟩ := and3 h
  obtain ⟨po, ar, va, ko, kd, ka, df⟩ := params
  have k1 : ar.map (·.arg) = ps := of_decide_eq_true h1
  have k2 : po = [] := by simpa using h2
  have k3 : ko = [] := by simpa using h3
  have k4 : va = none := by simpa using h4
  have k5 : ka = none := by simpa using h5
  clear h1 h2 h3 h4 h5 h
  subst k2 k3 k4 k5
  obtain ⟨g1, hk⟩ := and3 hk
  obtain ⟨g2, hk⟩ := and3 hk
  obtain ⟨g3, g4⟩ := and3 hk
  have ep : permV pmv ks = ps := of_decide_eq_true g1
  have nd : ks.Nodup := of_decide_eq_true g2
  have ks_ps : ∀ k ∈ ks, k ∈ ps := fun k hk => of_decide_eq_true (List.all_eq_true.mp g3 k hk)
  have pm_lt : ∀ i ∈ pmv, i < ks.length := fun i hi => of_decide_eq_true (List.all_eq_true.mp g4 i hi)
  have ps_ks : ∀ p ∈ ps, p ∈ ks := fun p hp => by
    rw [← ep] at hp
    obtain ⟨i, _, hi⟩ := List.mem_filterMap.mp hp
    exact List.mem_of_getElem? hi
  have e0 : seqItems? .none = pure none := rfl
  have e1 : ((ps.take ps.length).filter fun n => ((ks.zip ws).lookup n).isNone) = [] := by
    rw [List.take_length, List.filter_eq_nil_iff]
    intro p hp
    have := lookup_zip_some (us := ws) hl.symm (ps_ks p hp)
    cases q : (ks.zip ws).lookup p with
    | none => rw [q] at this; cases this
    | some _ => simp
  have e2 := filterMap_perm (ws := ws) nd hl.symm pm_lt
  rw [ep] at e2
  unfold bindArgs PySem.W.fnOf
  simp only [k1, List.map_nil, List.nil_append, List.append_nil, e0, pure_bind, Option.getD_none, gt_iff_lt, List.length_nil, List.drop_nil, Nat.sub_zero, List.isEmpty_nil, Bool.not_true, List.zip_nil_right]
  rw [forIn_kw (ps := ps) (fun p acc hp hn => ?_) (ks.zip ws) [] (fun p hp => ks_ps _ (List.of_mem_zip hp).1) (fun _ _ => rfl) (by rw [List.map_fst_zip (by omega)]; exact nd)]
  · simp only [pure_bind, List.nil_append, Nat.not_lt_zero, decide_false, Bool.false_and, Bool.false_eq_true, if_false, e0, Option.getD_none, List.length_nil, Nat.sub_zero, e1, List.isEmpty_nil, Bool.not_true, List.drop_nil, List.forIn_nil, List.zip_nil_right, List.append_nil]
    exact congrArg pure e2
  · have hc : (ps.contains p.1 || ([] : List Str).contains p.1) = true := by simp [hp]
    simp only [hc, if_true, hn, Bool.false_eq_true, if_false]

theorem vals_perm : ∀ {pm : List Nat} {zs : List V} {ws : List Value}, Vals zs ws → Vals (permV pm zs) (permV pm ws)
  | [], _, _, _ => .nil
  | i :: pm, vs, xs, r => by
    have ih := vals_perm (pm := pm) r
    have get : ∀ {vs : List V} {xs : List Value}, Vals vs xs → ∀ i : Nat, (vs[i]? = none ∧ xs[i]? = none) ∨ ∃ v x, vs[i]? = some v ∧ xs[i]? = some x ∧ RelV v x := by
      intro vs xs r
      induction r with
      | nil => intro i; exact .inl ⟨by simp, by simp⟩
      | cons a r ih =>
        intro i
        cases i with
        | zero => exact .inr ⟨_, _, rfl, rfl, a⟩
        | succ i => exact ih i
    unfold permV at ih ⊢
    rw [List.filterMap_cons, List.filterMap_cons]
    rcases get r i with ⟨e1, e2⟩ | ⟨v, x, e1, e2, e3⟩
    · rw [e1, e2]; exact ih
    · rw [e1, e2]; exact .cons e3 ih
theorem kbn_of {K : PySem.W.Frag} {x qual : Str} {params : Arguments} {body : List Stmt} {scope : Scope} {f : Addr} {fd : FuncData} {ps : List Str} (F : FunD K x qual params body scope [] [] f fd) (h : plainA params ps = true) :
    ∀ ks pm, kwB ps ks pm = true → KBn K fd ps 0 ks (fun _ ws => permV pm ws) fun _ zs => permV pm zs := by
  intro ks pmv hk
  obtain ⟨oc, od, dV, kV, doc, pm, an, cdv, ct, osl, rfl, lk, hcd, hD, hK⟩ := F.ex
  rcases hD with ⟨_, rfl⟩ | ⟨e, _⟩
  · refine ⟨fun s us ws X l1 l2 => ?_, fun _ r => vals_perm r⟩
    have : us = [] := List.length_eq_zero_iff.mp l1
    subst this
    exact .of_eq (bind_kw h hk l2)
  · exact absurd rfl e

/-! ### a def's end: what it made is locked -/
theorem mem_app {io : Io} {new : List Addr} {a : Addr} (h : a ∉ io.app new) : a ∉ io := by
  obtain ⟨h1, h2⟩ := Io.not_mem.mp h
  have h1 : a ∉ io.at_ ++ new := h1
  exact Io.not_mem.mpr ⟨fun z => h1 (List.mem_append_left _ z), h2⟩
mutual
theorem Rep.cut {g : G} {io : Io} {new : List Addr} {H : Hp} : ∀ {p : PV} {x : V}, Rep g (io.app new) H p x → under io.at_.length p = true → Rep g io H p x
  | _, _, .non, _ => .non
  | _, _, .bl b, _ => .bl b
  | _, _, .int b, _ => .int b
  | _, _, .str b, _ => .str b
  | _, _, .ty b, _ => .ty b
  | _, _, .tup h q, u => .tup h (Reps.cut q (by simpa only [under] using u))
  | _, _, .lst n h q, u => .lst (mem_app n) h (Reps.cut q (by simpa only [under] using u))
  | _, _, .scr h q, u => .scr (h.imp (fun z => ⟨mem_app z.1, z.2⟩) id) (Reps.cut q (by simpa only [under] using u))
  | _, _, .dicK n h l q, u => .dicK (mem_app n) h l (Reps.cut q (by simp only [under] at u; exact (and3 u).2))
  | _, _, .dicT n h l q, u => .dicT (mem_app n) h l (Reps.cut q (by simp only [under] at u; exact (and3 u).2))
  | _, _, .ins n h l c q, u => .ins (mem_app n) h l c (Reps.cut q (by simpa only [under] using u))
  | _, _, .exn0 n h c, u => .exn0 (mem_app n) h c
  | _, _, .exn n n2 h h2 l c q, u => .exn (mem_app n) (mem_app n2) h h2 l c (Reps.cut q (by simpa only [under] using u))
  | _, _, @Rep.ref _ _ _ k a h, u => .ref (by
      have h : (io.at_ ++ new)[k]? = some a := h
      simp only [under] at u
      rw [List.getElem?_append_left (of_decide_eq_true u)] at h
      exact h)
  | _, _, .glo h q, u => .glo h q
  | _, _, .clo n l h h2, u => .clo (mem_app n) l h h2
theorem Reps.cut {g : G} {io : Io} {new : List Addr} {H : Hp} : ∀ {ps : List PV} {xs : List V}, Reps g (io.app new) H ps xs → unders io.at_.length ps = true → Reps g io H ps xs
  | _, _, .nil, _ => .nil
  | _, _, .cons h q, u => by
    simp only [unders] at u
    exact .cons (Rep.cut h (and3 u).1) (Reps.cut q (and3 u).2)
end
mutual
theorem under_key : ∀ (n : Nat) (k : List Key), unders n (k.map keyP) = true
  | _, [] => rfl
  | n, k :: r => by
    simp only [List.map_cons, unders]
    rw [under_key n r]
    cases k <;> rfl
end
theorem under_keyT (n : Nat) : ∀ (k : List (List Key)), unders n (k.map fun k => .tup (k.map keyP)) = true
  | [] => rfl
  | k :: r => by
    simp only [List.map_cons, unders, under]
    rw [under_keyT n r, under_key]; rfl
mutual
theorem Rep.under {g : G} {io : Io} {H : Hp} : ∀ {p : PV} {x : V}, Rep g io H p x → Mini.under io.at_.length p = true
  | _, _, .non => rfl
  | _, _, .bl b => rfl
  | _, _, .int b => rfl
  | _, _, .str b => rfl
  | _, _, .ty b => rfl
  | _, _, .tup h q => by simp only [Mini.under]; exact Reps.under q
  | _, _, .lst n h q => by simp only [Mini.under]; exact Reps.under q
  | _, _, .scr h q => by simp only [Mini.under]; exact Reps.under q
  | _, _, .dicK n h l q => by simp only [Mini.under]; rw [under_key, Reps.under q]; rfl
  | _, _, .dicT n h l q => by simp only [Mini.under]; rw [under_keyT, Reps.under q]; rfl
  | _, _, .ins n h l c q => by simp only [Mini.under]; exact Reps.under q
  | _, _, .exn0 n h c => rfl
  | _, _, .exn n n2 h h2 l c q => by simp only [Mini.under]; exact Reps.under q
  | _, _, .ref h => by simp only [Mini.under]; exact decide_eq_true (List.getElem?_eq_some_iff.mp h).1
  | _, _, .glo h q => rfl
  | _, _, .clo n l h h2 => rfl
theorem Reps.under {g : G} {io : Io} {H : Hp} : ∀ {ps : List PV} {xs : List V}, Reps g io H ps xs → Mini.unders io.at_.length ps = true
  | _, _, .nil => rfl
  | _, _, .cons h q => by simp only [Mini.unders]; rw [Rep.under h, Reps.under q]; rfl
end
theorem ORep.under {g : G} {io : Io} {H : Hp} {a : Addr} {o : SO} (h : ORep g io H a o) : underO io.at_.length o = true := by
  cases h with
  | lst _ q => exact q.under
  | dicK _ _ q => simp only [underO]; rw [under_key, q.under]; rfl
  | dicT _ _ q => simp only [underO]; rw [under_keyT, q.under]; rfl
  | ins _ _ _ q => exact q.under
theorem ORep.cut {g : G} {io : Io} {new : List Addr} {H : Hp} {a : Addr} {o : SO} (h : ORep g (io.app new) H a o) (u : underO io.at_.length o = true) : ORep g io H a o := by
  cases h with
  | lst z q => exact .lst z (q.cut u)
  | dicK z l q => simp only [underO] at u; exact .dicK z l (q.cut (and3 u).2)
  | dicT z l q => simp only [underO] at u; exact .dicT z l (q.cut (and3 u).2)
  | ins z l c q => exact .ins z l c (q.cut u)
theorem peqO_ok {a b : SO} (h : peqO a b = true) : a = b := by
  cases a <;> cases b <;> simp only [peqO, Bool.false_eq_true, Bool.and_eq_true, decide_eq_true_eq] at h
  · rw [peqs_ok _ _ h]
  · rw [eq_of_beq h.1, peqs_ok _ _ h.2.1, peqs_ok _ _ h.2.2]
  · rw [h.1, h.2.1, peqs_ok _ _ h.2.2]
section
variable {g : G} {io : Io} {new : List Addr} {H H' : Hp} {s s' : Store}
theorem lock_ok (S : SRp g io H s) (hn : ∀ a ∈ new, H a = none) (S' : SRp g (io.app new) H' s') : ∀ (k : Nat) (v : PV) (x : V) (v' : PV), lock s' io.at_.length k v = some v' → Rep g (io.app new) H' v x → Rep g io H' v' x := by
  intro k
  induction k with
  | zero => intro v x v' h _; simp [lock] at h
  | succ k ih =>
    have many : ∀ (vs : List PV) (xs : List V) (vs' : List PV), vs.mapM (lock s' io.at_.length k) = some vs' → Reps g (io.app new) H' vs xs → Reps g io H' vs' xs := by
      intro vs
      induction vs with
      | nil =>
        intro xs vs' h r
        cases r
        have h : some [] = some vs' := h
        cases h
        exact .nil
      | cons v vs ihv =>
        intro xs vs' h r
        cases r with
        | cons r1 r2 =>
          rw [List.mapM_cons] at h
          obtain ⟨w, h1, h⟩ := Option.bind_eq_some_iff.mp h
          obtain ⟨ws, h2, h⟩ := Option.bind_eq_some_iff.mp h
          cases h
          exact .cons (ih _ _ _ h1 r1) (ihv _ _ h2 r2)
    intro v x v' h r
    have other : under io.at_.length v = true → v' = v → Rep g io H' v' x := fun u e => by rw [e]; exact r.cut u
    cases r with
    | tup z q =>
      simp only [lock] at h
      obtain ⟨ws, h1, rfl⟩ := Option.map_eq_some_iff.mp h
      exact .tup z (many _ _ _ h1 q)
    | lst n z q =>
      simp only [lock] at h
      obtain ⟨ws, h1, rfl⟩ := Option.map_eq_some_iff.mp h
      exact .lst (mem_app n) z (many _ _ _ h1 q)
    | dicK n z l q =>
      simp only [lock] at h
      split at h
      · obtain ⟨ws, h1, rfl⟩ := Option.map_eq_some_iff.mp h
        exact .dicK (mem_app n) z l (many _ _ _ h1 q)
      · cases h
    | dicT n z l q =>
      simp only [lock] at h
      split at h
      · obtain ⟨ws, h1, rfl⟩ := Option.map_eq_some_iff.mp h
        exact .dicT (mem_app n) z l (many _ _ _ h1 q)
      · cases h
    | ref z =>
      rename_i n a
      simp only [lock] at h
      split at h
      · rename_i hlt
        cases h
        have z : (io.at_ ++ new)[n]? = some a := z
        rw [List.getElem?_append_left hlt] at z
        exact .ref z
      · rename_i hlt
        have z' : (io.at_ ++ new)[n]? = some a := z
        rw [List.getElem?_append_right (by omega)] at z'
        have hna := hn a (List.mem_of_getElem? z')
        have out : a ∉ io := S.fresh hna
        obtain ⟨o, h1, h2⟩ := S'.find z
        rw [h1] at h
        cases h2 with
        | lst y q =>
          obtain ⟨ws, h1, rfl⟩ := Option.map_eq_some_iff.mp h
          exact .lst out y (many _ _ _ h1 q)
        | dicK y l q =>
          simp only at h
          split at h
          · obtain ⟨ws, h1, rfl⟩ := Option.map_eq_some_iff.mp h
            exact .dicK out y l (many _ _ _ h1 q)
          · cases h
        | dicT y l q =>
          simp only at h
          split at h
          · obtain ⟨ws, h1, rfl⟩ := Option.map_eq_some_iff.mp h
            exact .dicT out y l (many _ _ _ h1 q)
          · cases h
        | ins y l c q => cases h
    | _ =>
      simp only [lock] at h
      split at h
      · rename_i hu
        exact other hu (Option.some.inj h).symm
      · cases h
theorem cut_store (S : SRp g io H s) (S' : SRp g (io.app new) H' s') (gr : Gr io H (io.app new) H') (h : cutOk s s' = true) : SRp g io H' (s'.take s.length) := by
  obtain ⟨h1, h2⟩ := and3 h
  have h1 := of_decide_eq_true h1
  refine ⟨?_, S.nd, fun a ha z => S.hl a ha (gr.live a z), S'.tab, fun n a o e1 e2 => ?_⟩
  · rw [List.length_take, S.len]; omega
  · have hn : n < io.at_.length := (List.getElem?_eq_some_iff.mp e1).1
    have hs : n < s.length := by rw [← S.len]; exact hn
    rw [List.getElem?_take_of_lt hs] at e2
    have e3 : (io.app new).at_[n]? = some a := gr.at e1
    have r := S'.at_ n a o e3 e2
    have c := List.all_eq_true.mp h2 n (List.mem_range.mpr hs)
    have e4 : s[n]? = some s[n] := List.getElem?_eq_getElem hs
    rw [e4, e2] at c
    rcases Bool.or_eq_true_iff.mp c with c | c
    · have e5 := peqO_ok c
      have u := (S.at_ n a _ e1 e4).under
      rw [e5] at u
      exact r.cut u
    · rw [← S.len] at c
      exact r.cut c
theorem fin_ok {W : WX} {σ : St} {cut : Bool} {v : PV} {x : V} {Q : VK} {io' : Io} (S : SRp g io H s) (h : Ok g W σ io H (fun io' H' _ v => ∀ x, Rep g io' H' v x → Q x H') (fin cut s v s')) (gr : Gr io H io' H') (S' : SRp g io' H' s') (r : Rep g io' H' v x) : Q x H' := by
  unfold fin at h
  cases cut with
  | false => exact h io' H' gr S' x r
  | true =>
    rw [if_pos rfl] at h
    cases e : lock s' s.length 50 v with
    | none => rw [e] at h; exact h.elim
    | some v' =>
      rw [e] at h
      simp only at h
      by_cases hc : cutOk s s' = true
      · rw [if_pos hc] at h
        obtain ⟨nw, rfl, hn⟩ := gr.pre
        rw [← S.len] at e
        exact h io H' ⟨fun a u q e nt => gr.ext a u q e nt, gr.tb, gr.live, [], (Io.app_nil io).symm, fun _ z => by cases z⟩ (cut_store S S' gr hc) x (lock_ok S hn S' 50 v x v' e r)
      · rw [if_neg hc] at h; exact h.elim
end
end Mini

set_option Elab.async false
set_option linter.all false
set_option maxRecDepth 100000
/-! Mini17: a program's defs keep their promises. -/
namespace Mini
open PySem L2
structure Entry where
  name : Str
  st : Stmt
  fn : Fn
def scopeB (N ps : List Str) (sc : Scope) : Bool := decide (sc.kind = .function) && (!sc.isCoroutine && (!sc.isGenerator && (decide N.Nodup && (decide (N.take ps.length = ps) && ((ps.all fun x => decide (sc.names.lookup x = some .local) || decide (sc.names.lookup x = some .cell)) && sc.names.all fun y => decide (y.2 ≠ .free))))))
theorem scopeB_ok {N ps : List Str} {sc : Scope} (h : scopeB N ps sc = true) : FnScope N ps sc := by
  obtain ⟨h1, h⟩ := and3 h
  obtain ⟨h2, h⟩ := and3 h
  obtain ⟨h3, h⟩ := and3 h
  obtain ⟨h4, h⟩ := and3 h
  obtain ⟨h5, h⟩ := and3 h
  obtain ⟨h6, h7⟩ := and3 h
  exact ⟨of_decide_eq_true h1, by simpa using h2, by simpa using h3, of_decide_eq_true h4, of_decide_eq_true h5, fun x hx => (Bool.or_eq_true_iff.mp (List.all_eq_true.mp h6 x hx)).imp of_decide_eq_true of_decide_eq_true, fun y hy => of_decide_eq_true (List.all_eq_true.mp h7 y hy)⟩
abbrev ErT := List (Str × Bool × List Str)
def ctOf (er : ErT) (e : Entry) : Ct := ⟨e.fn.N, defScope e.st, cells (defScope e.st), [], [], 0, er⟩
def chkFn (F : Fs) (gi : List (Str × Int)) (xs : List Str) (er : ErT) (e : Entry) : Bool := scopeB e.fn.N e.fn.ps (defScope e.st) && (plainA (defArgs e.st) e.fn.ps && chkSs F gi xs (ctOf er e) e.fn.body (defBody e.st))
def tabF (es : List Entry) : Fs := es.map fun e => (e.name, e.fn.ps)
theorem lookup_nodup {α : Type} : ∀ {l : List (Str × α)}, (l.map (·.1)).Nodup → ∀ p ∈ l, l.lookup p.1 = some p.2
  | [], _, p, h => by cases h
  | q :: l, nd, p, h => by
    obtain ⟨n1, n2⟩ := List.nodup_cons.mp nd
    rw [List.lookup_cons]
    rcases List.mem_cons.mp h with e | m
    · rw [e]; simp
    · have : (p.1 == q.1) = false := by
        rw [beq_eq_false_iff_ne]
        intro e
        exact n1 (List.mem_map.mpr ⟨p, m, e⟩)
      rw [this]
      exact lookup_nodup n2 p m
theorem tab_ok {es : List Entry} {tb : List (Str × Fn)} (h : es.map (fun e => (e.name, e.fn)) = tb) (nd : (tb.map (·.1)).Nodup) : ∀ e ∈ es, tabT tb e.name = some e.fn := by
  intro e he
  subst h
  exact lookup_nodup nd (e.name, e.fn) (List.mem_map.mpr ⟨e, he, rfl⟩)
structure POk (g : G) (T : Str → Option Fn) (gi : List (Str × Int)) (xs : List Str) (er : ErT) (es : List Entry) : Prop where
  glob : GOk g gi
  err : ∀ p ∈ er, ErF g p.1 p.2.1 p.2.2
  exc : ∀ x ∈ xs, XcOk g x
  def_ : ∀ e ∈ es, ∃ a fd, g.mg e.name = some (.ref a) ∧ FunD g.K e.name e.name (defArgs e.st) (defBody e.st) (defScope e.st) [] [] a fd
  chk : ∀ e ∈ es, chkFn (tabF es) gi xs er e = true
  tab : ∀ e ∈ es, T e.name = some e.fn
theorem spF_len {g : G} {T : Str → Option Fn} {n : Nat} {f : Str} {d : Fn} (hT : T f = some d) (vs : List V) (H : Hp) (Q : VK) (E : XK) (h : spF g (run T n f) vs H Q E) : vs.length = d.ps.length := by
  obtain ⟨io, s, ps, S, r, h⟩ := h
  cases n with
  | zero => exact h.elim
  | succ n =>
    simp only [run, hT, callB] at h
    by_cases hl : ps.length = d.ps.length
    · rw [← r.length]; exact hl
    · rw [if_neg (by simpa using hl)] at h; exact h.elim
theorem start_len (N : List Str) (vs : List V) : (L2.start N vs).length = vs.length + (N.length - vs.length) := by unfold L2.start; simp
theorem start_rep {g : G} {io : Io} {H : Hp} {N : List Str} {ps : List PV} {vs : List V} (r : Reps g io H ps vs) : ERp g io H (Mini.start N ps) (L2.start N vs) := by
  refine ⟨by unfold Mini.start L2.start; simp [r.length], fun i p h => ?_⟩
  unfold Mini.start at h
  by_cases hi : i < ps.length
  · rw [List.getElem?_append_left (by simpa using hi), List.getElem?_map] at h
    obtain ⟨q, h1, h2⟩ := Option.map_eq_some_iff.mp h
    cases h2
    obtain ⟨x, h3, h4⟩ := r.get h1
    refine ⟨x, ?_, h4⟩
    unfold L2.start
    rw [List.getElem?_append_left (by rw [List.length_map, ← r.length]; exact hi), List.getElem?_map, h3]
    rfl
  · rw [List.getElem?_append_right (by simpa using hi), List.getElem?_replicate] at h
    split at h <;> cases h
theorem fn_ok {g : G} {T : Str → Option Fn} {gi : List (Str × Int)} {xs : List Str} {er : ErT} {es : List Entry} (P : POk g T gi xs er es) {n : Nat} (ih : PhiOk g n (tabF es) (run T n)) {e : Entry} (he : e ∈ es) {a : Addr} {fd : FuncData} (F : FunD g.K e.name e.name (defArgs e.st) (defBody e.st) (defScope e.st) [] [] a fd) :
    FnG g.P g.w g.K g.mg g.base (n + 1) a fd e.fn.ps (spF g (run T (n + 1) e.name)) := by
  obtain ⟨c1, c⟩ := and3 (P.chk e he)
  obtain ⟨c2, c3⟩ := and3 c
  have hT := P.tab e he
  have sc := scopeB_ok c1
  refine fnG_of (N := e.fn.N) F sc (fun vs H Q E h => spF_len hT vs H Q E h) fun cdv A outer s H vs Q E hr hgd h => ?_
  obtain ⟨io, st, ps, S, r, h⟩ := h
  have hl : ps.length = e.fn.ps.length := by
    have z := spF_len (g := g) (n := n + 1) hT vs H Q E ⟨io, st, ps, S, r, h⟩
    rw [r.length]; exact z
  refine ⟨tS g (fun c d _ H => E c d H) (exSs (run T n) e.fn.body), ?_, io, Mini.start e.fn.N ps, st, start_rep r, S, ?_⟩
  · refine sndSs P.glob ih P.exc e.fn.body (ctOf er e) _ _ _ ?_ c3
    exact { prog := rfl, w := rfl, K := rfl, mg := rfl, base := rfl, N := rfl, sc := rfl, nd := sc.nd, calm := rfl, room := hr, gd := hgd, fn := fun _ _ => rfl, tk := takes_of rfl rfl rfl rfl, lam := fun h => absurd rfl h, er := P.err, own := passes_of rfl, kind := sc.kind }
  · simp only [run, hT, callB] at h
    rw [if_pos (by simpa using hl)] at h
    cases em : exSs (run T n) e.fn.body (Mini.start e.fn.N ps) st with
    | stuck => rw [em] at h; exact h.elim
    | exc x ρ s1 => rw [em] at h; exact fun io' H' σ' c d gr S' E' X' => h io' H' c d gr S' X'
    | ok f s1 =>
      rw [em] at h
      cases f with
      | nx ρ => exact fun io' H' σ' gr S' E' => fin_ok S h gr S' .non
      | rt v => exact fun io' H' x gr S' r => fin_ok S h gr S' r
      | bk ρ => exact h.elim
      | ct ρ => exact h.elim
theorem prog_ok {g : G} {T : Str → Option Fn} {gi : List (Str × Int)} {xs : List Str} {er : ErT} {es : List Entry} (P : POk g T gi xs er es) : ∀ n, PhiOk g n (tabF es) (run T n)
  | 0 => fun p hp => by
    obtain ⟨e, he, rfl⟩ := List.mem_map.mp hp
    obtain ⟨a, fd, h1, F⟩ := P.def_ e he
    have c := (and3 (and3 (P.chk e he)).2).1
    refine ⟨a, fd, h1, F.kp, F.bindsN fun kV doc pm an cdv ct us hl => bind_plain c hl, kbn_of F c, ?_⟩
    have no : ∀ vs H Q E, ¬ spF g (run T 0 e.name) vs H Q E := fun vs H Q E ⟨_, _, _, _, _, h⟩ => h
    exact ⟨fun vs H Q E h => (no vs H Q E h).elim, fun _ _ _ _ _ _ _ _ _ _ _ _ _ _ h => (no _ _ _ _ h).elim⟩
  | n + 1 => fun p hp => by
    obtain ⟨e, he, rfl⟩ := List.mem_map.mp hp
    obtain ⟨a, fd, h1, F⟩ := P.def_ e he
    have c := (and3 (and3 (P.chk e he)).2).1
    exact ⟨a, fd, h1, F.kp, F.bindsN fun kV doc pm an cdv ct us hl => bind_plain c hl, kbn_of F c, fn_ok P (prog_ok P n) he F⟩
/-- the law: of a list of numbers, answered True -/
def LawT (T : Str → Option Fn) (n most : Nat) : Prop := ∀ ns : List Int, ns.length ≤ most → ∃ s', run T n "law" [.scr (ns.map .int)] [] = .ok (.bl true) s'
theorem reps_ints {g : G} {io : Io} {H : Hp} : ∀ ns : List Int, Reps g io H (ns.map PV.int) (ns.map V.int)
  | [] => .nil
  | n :: r => .cons (.int n) (reps_ints r)
theorem law_sp {g : G} {T : Str → Option Fn} {n most : Nat} (hL : LawT T n most) {H : Hp} {a : Addr} {ns : List Int} (hH : LamX.Tabs g.tabs H) (hl : ns.length ≤ most) (hS : SqL g.K H a (ns.map V.int)) : spF g (run T n "law") [.ref a] H (fun v _ => v = .bl true) fun _ _ _ => False := by
  obtain ⟨s', e⟩ := hL ns hl
  refine ⟨⟨[], [], g.tabs⟩, [], [.scr (ns.map .int)], ⟨rfl, List.nodup_nil, (fun a h => by cases h), ⟨hH, rfl⟩, (fun n a o h => by simp at h)⟩, .cons (.scr ?_ (reps_ints ns)) .nil, ?_⟩
  · rcases hS with h | ⟨o, its, k, h1, h2, h3, h4, h5, h6⟩
    · exact .inl ⟨Io.not_mem.mpr ⟨by simp, by simp⟩, h⟩
    · exact .inr ⟨o, its, k, h1, h2, h3, h4, h5, h6⟩
  · rw [e]
    intro io' H' _ _ x r
    cases r
    rfl
end Mini

set_option Elab.async false
set_option linter.all false
set_option maxRecDepth 100000
/-! Mini18: from the head's facts to a program's promises, and a law's end. -/
namespace Mini
open PySem L2
def entD (e : Entry) : He.DefD := ⟨(e.name, none), e.name, e.name, defArgs e.st, defBody e.st, defScope e.st, [], []⟩
def fasOf (es : List Entry) (xs : List Str) (gi : List (Str × Int)) : List He.Fa := es.map (fun e => .glo e.name) ++ (bnames.map .free ++ (xs.map .exc ++ (xs.map .glo ++ gi.map fun p => .int p.1 p.2)))
def fnsOf (es : List Entry) : List He.DefD := es.map entD
theorem pok_of {g : G} {h : Heap} {es : List Entry} {xs : List Str} {gi : List (Str × Int)} {T : Str → Option Fn} (X : g.K.In h) (Gm : h.Ns mainGlobals g.mg) (c : He.SaysD (fasOf es xs gi) (fnsOf es) g.K)
    (chk : es.all (chkFn (tabF es) gi xs []) = true) (tab : ∀ e ∈ es, T e.name = some e.fn) : POk g T gi xs [] es where
  err := fun p hp => by cases hp
  glob := ⟨fun x hx => He.free_ok X Gm (c.facts (List.mem_append_right _ (List.mem_append_left _ (List.mem_map.mpr ⟨x, hx, rfl⟩)))),
    fun p hp => He.int_ok X Gm (c.facts (f := .int p.1 p.2) (List.mem_append_right _ (List.mem_append_right _ (List.mem_append_right _ (List.mem_append_right _ (List.mem_map.mpr ⟨p, hp, rfl⟩))))))⟩
  exc := fun x hx => by
    have c1 := c.facts (f := .exc x) (List.mem_append_right _ (List.mem_append_right _ (List.mem_append_left _ (List.mem_map.mpr ⟨x, hx, rfl⟩))))
    have c2 := c.facts (f := .glo x) (List.mem_append_right _ (List.mem_append_right _ (List.mem_append_right _ (List.mem_append_left _ (List.mem_map.mpr ⟨x, hx, rfl⟩)))))
    obtain ⟨k1, k2, k3, k4⟩ := He.exc_ok c1
    exact ⟨_, _, _, _, _, He.glo_ok X Gm c2, F.excBase_ValueError, k1, k2, k3, k4⟩
  def_ := fun e he => by
    obtain ⟨fd, F⟩ := c.defs (d := entD e) (List.mem_map.mpr ⟨e, he, rfl⟩)
    exact ⟨_, fd, He.glo_ok X Gm (c.facts (List.mem_append_left _ (List.mem_map.mpr ⟨e, he, rfl⟩))), F⟩
  chk := fun e he => List.all_eq_true.mp chk e he
  tab := tab
theorem walk_law {l : PySem.W.OpenLaw} {n m : Nat} {q : Program} {loose : List Str} {XP : (Str → Option Value) → Heap → Prop} {d : DefRec} {x : Str} {es : List Entry} {xs : List Str} {gi : List (Str × Int)} {T : Str → Option Fn} {e : Entry}
    (hn : l.most = some n) (hn2 : n ≤ sizeLine) (hdf : d.params.defaults = []) (hr : Room (m + 1) callerA)
    (chk : es.all (chkFn (tabF es) gi xs []) = true) (tab : ∀ e ∈ es, T e.name = some e.fn) (he : e ∈ es) (hname : e.name = "law") (hd : d.name = "law") (hps : e.fn.ps = [x]) (hL : LawT T (m + 1) n) :
    PySem.W.WalkO q loose XP (fun _ h => ∃ K : PySem.W.Frag, K.In h ∧ He.SaysD (fasOf es xs gi) (fnsOf es) K) l.row.toRowW d [] (fun f vs => PySem.call f vs) := by
  refine walk_ofG (x := x) (k := m + 1) hn hn2 hdf hr fun w mg fa h ⟨K, KX, c⟩ Gm hmg => ?_
  have P0 : ∀ base : Heap, POk ⟨l.prog, w, K, mg, base, [], fun _ => none⟩ T gi xs [] es := fun base => pok_of (g := ⟨l.prog, w, K, mg, base, [], fun _ => none⟩) KX Gm c chk tab
  obtain ⟨a, fd, h1, F⟩ := (P0 h).def_ e he
  have c2 := (and3 (and3 ((P0 h).chk e he)).2).1
  have ea : a = fa := by
    rw [hd] at hmg
    rw [hname] at h1
    have z := h1.symm.trans hmg
    cases z
    rfl
  subst ea
  refine ⟨K, fd, fun vs H Q E => ∀ base, spF ⟨l.prog, w, K, mg, base, [], fun _ => none⟩ (run T (m + 1) "law") vs H Q E, KX, ?_, fun H a ns hl _ hS base => law_sp (g := ⟨l.prog, w, K, mg, base, [], fun _ => none⟩) hL (fun p hp => by cases hp) hl hS, fun base kB gB => ?_⟩
  · have b := FunD.bindsA (ps := [x]) F fun kV doc pm an cdv ct us hl => by
      have z := bind_plain (x := e.name) (qual := e.name) (body := defBody e.st) (scope := defScope e.st) (kV := kV) (doc := doc) (pm := pm) (an := an) (cdv := cdv) (ct := ct) c2 (us := us) (by rw [hps]; exact hl)
      rw [hps] at z
      exact z
    exact fun s u => b s [u] rfl
  · have F2 := fn_ok (P0 base) (prog_ok (P0 base) m) he F
    rw [hps, hname] at F2
    exact ⟨fun vs H Q E h => F2.len vs H Q E (h base), fun A outer s H args us vs Q E h1 h2 h3 h4 h5 h6 => F2.run A outer s H args us vs Q E h1 h2 h3 h4 h5 (h6 base)⟩
end Mini

set_option Elab.async false
set_option linter.all false
set_option maxRecDepth 100000
/-! MiniI: a law's end where lambdas are made: the tables of code objects are known and empty (by the road of the layer's law_callTs). -/
namespace Mini
open PySem PySem.Spec PyProof.Rows L2 LamX
/-- of the tables' addresses -/
def tbA (cs : List (Addr × Addr)) : List Addr := cs.map (·.2)
theorem tbA_mem {cs : List (Addr × Addr)} {b : Addr} : b ∈ tbA cs ↔ ∃ p ∈ cs, p.2 = b := List.mem_map
structure TbsAt (K : PySem.W.Frag) (h : Heap) (cs : List (Addr × Addr)) : Prop where
  emp : ∀ p ∈ cs, h.get? p.2 = some { cls := .none, data := .fields #[] }
  out : ∀ p ∈ cs, K.lookup p.2 = none
  code : ∀ p ∈ cs, PySem.W.CodeHd h p.1 p.2
section
variable {P : Program} {w : World} {K : PySem.W.Frag} {mg mb : Str → Option Value} {k : Nat} {fa a : Addr} {cs : List (Addr × Addr)} {fd : FuncData} {x : Str} {sp : Sp} {s₁ : Shared} {vs : List Value} {ns : List Int}
theorem law_callTG (KX : K.In s₁.heap) (gns : s₁.heap.Ns mainGlobals mg) (hb : s₁.heap.Ns builtinsNs mb) (bbt : ∀ x : Str, x ≠ "__name__" → mb x = bootBuiltins x) (nlm : s₁.heap.NoLimit) (hg : s₁.gens = #[]) (TA : TbsAt K s₁.heap cs)
    (bmn : ∃ (bm : Addr) (ob : Obj), mg "__builtins__" = some (.ref bm) ∧ bm ≠ builtinsNs ∧ s₁.heap.get? bm = some ob ∧ ob.cls = .type "module" ∧ ob.dict = some builtinsNs ∧ ob.data = .plain)
    (ha : s₁.heap.get? a = some { cls := .type "list", data := .seq vs.toArray }) (hi : IntsAre vs ns) (hl : ns.length ≤ sizeLine) (hr : Room k callerA)
    (F : ∀ base : Heap, K.In base → base.Ns mainGlobals mg → (∀ p ∈ cs, TabB base mg p.1 p.2) → FnG P w K mg base k fa fd [x] sp) (hbind : ∀ (s : Shared) (u : Value), BindsTo s fd ⟨[u], []⟩ [(x, u)])
    (hsp : ∀ H : Hp, (∀ p ∈ cs, H p.2 = some (.tbl #[])) → SqL K H a (ns.map V.int) → sp [.ref a] H (fun v _ => v = .bl true) fun _ _ _ => False)
    (hCX : ∀ H e s', L2.CX P w [] H s₁ (fun _ _ _ => False) e s' → False) :
    codeAny (model P w) callerA (.call (.ref fa) ⟨[.ref a], []⟩) (fun r s' => r = .ok (.ret (.bool true)) ∧ OldK s₁.heap s'.heap ∧ s'.os = s₁.os ∧ AllBare s'.gens) s₁ := by
  have rV := vals_ints hi
  have lnV := hi.length
  have tb0 : ∀ b ∈ tbA cs, s₁.heap.get? b = some { cls := .none, data := .fields #[] } := fun b m => by
    obtain ⟨p, m1, m2⟩ := tbA_mem.mp m
    exact m2 ▸ TA.emp p m1
  have in_ : ∀ p ∈ cs, p.2 ∈ tbA cs := fun p m => tbA_mem.mpr ⟨p, m, rfl⟩
  have aOut : a ∉ tbA cs := fun m => by
    have e := (tb0 a m).symm.trans ha
    have e2 : Data.fields #[] = Data.seq vs.toArray _ := congrArg Obj.data (Option.some.inj e)
    cases e2
  -- what is tracked: the script, perhaps, and the tables
  have main : ∀ H : Hp, (∀ p ∈ cs, H p.2 = some (.tbl #[])) → (∀ b, H b = none ∨ b ∈ tbA cs ∨ ∃ o xs, H b = some (.frz o (.lst xs))) → SqL K H a (ns.map V.int) → HOk P w H s₁.heap → (∀ b, H b ≠ none → b = a ∨ b ∈ tbA cs) → (H a ≠ none → K.lookup a = none) →
      codeAny (model P w) callerA (.call (.ref fa) ⟨[.ref a], []⟩) (fun r s' => r = .ok (.ret (.bool true)) ∧ OldK s₁.heap s'.heap ∧ s'.os = s₁.os ∧ AllBare s'.gens) s₁ := fun H hT hO hS hok hA hK => by
    have bof : ∀ {b : Addr} {o : Obj}, s₁.heap.get? b = some o → H b = none → (hidT s₁.heap H).get? b = some o := fun e n => hidT_get e n
    have un : ∀ {b : Addr} {o : Obj}, s₁.heap.get? b = some o → (∀ vs n, o.data ≠ .seq vs n) → o.data ≠ .fields #[] → H b = none := fun {b o} e n1 n2 => by
      cases q : H b with
      | none => rfl
      | some u =>
        rcases hA b (by rw [q]; simp) with z | z
        · subst z
          rw [ha] at e; cases e
          exact absurd rfl (n1 _ _)
        · rw [tb0 b z] at e; cases e
          exact absurd rfl n2
    have unD : ∀ {b : Addr} {o : Obj} {es : Array DictEntry} {ep : Nat}, s₁.heap.get? b = some o → o.data = .dict es ep → H b = none := fun e d => un e (fun _ _ z => by rw [d] at z; cases z) fun z => by rw [d] at z; cases z
    have unP : ∀ {b : Addr} {o : Obj}, s₁.heap.get? b = some o → o.data = .plain → H b = none := fun e d => un e (fun _ _ z => by rw [d] at z; cases z) fun z => by rw [d] at z; cases z
    have nK : ∀ {b : Addr} {m : Str → Option Value}, s₁.heap.Ns b m → (hidT s₁.heap H).Ns b m := fun ⟨o, es, ep, e, d, r⟩ => ⟨o, es, ep, bof e (unD e d), d, r⟩
    have kB : K.In (hidT s₁.heap H) := fun b o e => bof (KX b o e) (by
      cases q : H b with
      | none => rfl
      | some u =>
        rcases hA b (by rw [q]; simp) with z | z
        · subst z
          rw [hK (by rw [q]; simp)] at e; cases e
        · obtain ⟨p, m1, m2⟩ := tbA_mem.mp z
          rw [← m2, TA.out p m1] at e; cases e)
    have mD : Mod K mg (hidT s₁.heap H) := ⟨kB, nK gns, ⟨mb, nK hb, bbt⟩, let ⟨mc, z1, z2⟩ := nlm; ⟨mc, nK z1, z2⟩⟩
    have tB : ∀ p ∈ cs, TabB (hidT s₁.heap H) mg p.1 p.2 := fun p m => by
      have e0 := TA.emp p m
      refine ⟨?_, ?_, fun z => ?_⟩
      · obtain ⟨o, us, file, tf, flags, tg, inF, text, tt, c1, c2, c3, c4, c5, c6, c7, c8, c9, c0⟩ := TA.code p m
        refine ⟨o, us, file, tf, flags, tg, inF, text, tt, bof c1 (un c1 (fun _ _ z => ?_) fun z => ?_), c2, c3, c4, c5, c6, c7, c8, c9, c0⟩
        · rw [c3] at z; cases z
        · rw [c3] at z; cases z
          simp at c4
      · obtain ⟨bm, ob, b1, b2, b3, b4, b5, b6⟩ := bmn
        refine ⟨bm, ob, b1, b2, fun q => ?_, fun q => ?_, bof b3 (unP b3 b6), b4, b5, b6⟩
        · obtain ⟨o, es, ep, z1, z2, _⟩ := gns
          rw [q, z1] at b3; cases b3
          rw [z2] at b6; cases b6
        · rw [q, e0] at b3; cases b3
          cases b6
      · obtain ⟨o, es, ep, z1, z2, _⟩ := gns
        rw [z, e0] at z1; cases z1
        cases z2
    have e0 : Env0 P w K mg (hidT s₁.heap H) callerA [] s₁ H := ⟨rfl, mD, fun b o e => of_hidT e, Nat.le_of_eq (hidT_size _ _), trivial, fun b hb => absurd (show b ∈ ([] : List Addr) from hb) (by simp), hok, .of_eq hg⟩
    refine codeAny_mono ((F _ kB (nK gns) tB).run callerA [] s₁ H ⟨[.ref a], []⟩ [.ref a] [.ref a] _ _ hr rfl e0 (hbind s₁ (.ref a)) (.cons rfl .nil) (hsp H hT hS)) fun r s' h => ?_
    cases r with
    | error e => exact (hCX H e s' h).elim
    | ok fl =>
      cases fl with
      | next => exact False.elim h
      | brk => exact False.elim h
      | cont => exact False.elim h
      | ret u =>
        obtain ⟨v, H', os, bare, uu, hok', r', q⟩ := h
        have q' : v = .bl true := q
        subst q'
        obtain rfl : u = Value.bool true := r'
        have old : ∀ b o, b ∉ tbA cs → s₁.heap.get? b = some o → s'.heap.get? b = some o := fun b o nb e => by
          cases q : H b with
          | none => exact uu.keep b o e q (by intro z; exact absurd (show b ∈ ([] : List Addr) from z) (by simp)) (by simp)
          | some u =>
            rcases hO b with z | z | ⟨ob, xs, z⟩
            · rw [q] at z; cases z
            · exact absurd z nb
            · obtain ⟨e1, _⟩ := hok b _ z
              obtain ⟨e2, _⟩ := hok' b _ (uu.frzs b ob _ z)
              rw [e] at e1; cases e1
              exact e2
        have more : ∀ b ∈ tbA cs, (∃ p ∈ cs, p.2 = b) ∧ ∃ ms : Array Value, s'.heap.get? b = some { cls := .none, data := .fields ms } := fun b m => by
          obtain ⟨p, m1, m2⟩ := tbA_mem.mp m
          obtain ⟨ms, z⟩ := uu.tbls p.2 #[] (hT p m1)
          exact ⟨⟨p, m1, m2⟩, m2 ▸ ⟨_, hok' p.2 _ z⟩⟩
        refine ⟨rfl, ⟨fun b o e => ?_, fun b o e => ?_⟩, os, bare⟩
        · by_cases hb : b ∈ tbA cs
          · obtain ⟨⟨p, m1, m2⟩, ms, z⟩ := more b hb
            subst m2
            rw [TA.emp p m1] at e; cases e
            exact .inr (.inl ⟨((TA.code p m1).tab (TA.emp p m1)).isCodeTable, rfl, #[], ms, rfl, by rw [Array.empty_append]; exact z⟩)
          · exact .inl (old b o hb e)
        · by_cases hb : b ∈ tbA cs
          · obtain ⟨_, ms, z⟩ := more b hb
            exact ⟨_, z⟩
          · exact ⟨o, old b o hb e⟩
  cases hk : K.lookup a with
  | some o =>
    have e := KX a o hk
    rw [ha] at e; cases e
    have na : (fun b => if b ∈ tbA cs then some (HO.tbl #[]) else none) a = none := if_neg aOut
    refine main (fun b => if b ∈ tbA cs then some (.tbl #[]) else none) (fun p m => if_pos (in_ p m)) (fun b => ?_) (.inr ⟨_, vs.toArray, _, hk, rfl, rfl, rfl, by rw [List.size_toArray, lnV]; exact hl, by simpa using rV⟩) (fun b u z => ?_) (fun b z => ?_) fun z => absurd na z
    all_goals by_cases hb : b ∈ tbA cs
    · exact .inr (.inl hb)
    · exact .inl (if_neg hb)
    · have z' := (if_pos hb).symm.trans z
      cases z'
      exact tb0 b hb
    · have z' := (if_neg hb).symm.trans z
      cases z'
    · exact .inr hb
    · exact absurd (if_neg hb) z
  | none =>
    have sel : ∀ b, b ∈ tbA cs → b ≠ a := fun b m z => aOut (z ▸ m)
    refine main (fun b => if b = a then some (.frz { cls := .type "list", data := .seq vs.toArray } (.lst (ns.map V.int))) else if b ∈ tbA cs then some (.tbl #[]) else none) (fun p m => (if_neg (sel _ (in_ p m))).trans (if_pos (in_ p m))) (fun b => ?_)
      (.inl (.inr ⟨{ cls := .type "list", data := .seq vs.toArray }, if_pos rfl⟩)) (fun b u z => ?_) (fun b z => ?_) fun _ => hk
    all_goals by_cases hb : b = a
    · exact .inr (.inr ⟨_, _, if_pos hb⟩)
    · by_cases hb2 : b ∈ tbA cs
      · exact .inr (.inl hb2)
      · exact .inl ((if_neg hb).trans (if_neg hb2))
    · have z' := (if_pos hb).symm.trans z
      cases z'
      subst hb
      exact ⟨ha, by rw [List.length_map]; exact hl, vs, _, rV, ha⟩
    · have z1 := (if_neg hb).symm.trans z
      by_cases hb2 : b ∈ tbA cs
      · have z' := (if_pos hb2).symm.trans z1
        cases z'
        exact tb0 b hb2
      · have z' := (if_neg hb2).symm.trans z1
        cases z'
    · exact .inl hb
    · by_cases hb2 : b ∈ tbA cs
      · exact .inr hb2
      · exact absurd ((if_neg hb).trans (if_neg hb2)) z
end
theorem walk_ofTG {l : PySem.W.OpenLaw} {n k : Nat} {q : Program} {loose : List Str} {XP : (Str → Option Value) → Heap → Prop} {YP : World → Heap → Prop} {d : DefRec} {x : Str}
    (hn : l.most = some n) (hn2 : n ≤ sizeLine) (hdf : d.params.defaults = []) (hr : Room k callerA)
    (F : ∀ (w : World) (mg : Str → Option Value) (fa : Addr) (h : Heap), YP w h → h.Ns mainGlobals mg → mg d.name = some (.ref fa) →
      ∃ (K : PySem.W.Frag) (cs : List (Addr × Addr)) (fd : FuncData) (sp : Sp), K.In h ∧ TbsAt K h cs ∧ (∀ (s : Shared) (u : Value), BindsTo s fd ⟨[u], []⟩ [(x, u)]) ∧ (∀ (H : Hp) (a : Addr) (ns : List Int), ns.length ≤ n → (∀ p ∈ cs, H p.2 = some (.tbl #[])) → SqL K H a (ns.map V.int) → sp [.ref a] H (fun v _ => v = .bl true) fun _ _ _ => False) ∧
        ∀ base : Heap, K.In base → base.Ns mainGlobals mg → (∀ p ∈ cs, TabB base mg p.1 p.2) → FnG l.prog w K mg base k fa fd [x] sp) :
    PySem.W.WalkO q loose XP YP l.row.toRowW d [] (fun f vs => PySem.call f vs) := by
  refine Att.attach_call hn hdf fun w s0 s1 mg mb fa o pm cd doc a vs ns G Y ho hd hcd hmg hob his hlen hg => ?_
  obtain ⟨K, cs, fd, sp, KX, TA, hb, hsp, hF⟩ := F w mg fa _ Y G.T.g hmg
  exact law_callTG KX G.T.g G.T.b G.T.builtins G.T.nolimit hg TA G.T.bmain hob his (Nat.le_trans hlen hn2) hr hF hb (fun H hT hS => hsp H a ns hlen hT hS) fun H e s' c => by
    obtain ⟨_, _, _, _, _, _, _, _, _, _, _, _, z⟩ := c
    exact z
end Mini

set_option Elab.async false
set_option linter.all false
set_option maxRecDepth 100000
/-! Mini19: a law that makes lambdas. -/
namespace Mini
open PySem PySem.Spec PyProof.Rows L2
section
variable {P : Program} {w : World} {K : PySem.W.Frag} {mg : Str → Option Value} {base : Heap} {x qual : Str} {params : Arguments} {body : List Stmt} {scope : Scope} {dvs : List V} {kws : List (Str × V)} {f : Addr} {fd : FuncData}
/-- fnG_of, the code object told -/
theorem fnG_ofC {N ps : List Str} {k : Nat} {sp : Sp} (F : FunD K x qual params body scope dvs kws f fd) (S : FnScope N ps scope) (len : ∀ vs H Q E, sp vs H Q E → vs.length = ps.length)
    (hbody : ∀ (cdv : Value) (A : Around) (outer : List PySem.Env) (s : Shared) (H : Hp) (vs : List V) (Q : VK) (E : XK), fd.code = cdv → Room k (A.deeper (envOfC qual scope s.heap.objs.size f cdv)) → (A.deeper (envOfC qual scope s.heap.objs.size f cdv)).guards = some [] → sp vs H Q E →
      ∃ t, PSs (cxOf (L2.CX P w) P w K mg base N qual scope f cdv A outer s H E) body t ∧ t { nx := fun _ H' => Q .non H', rt := Q } (L2.start N vs) H) : FnG P w K mg base (k + 1) f fd ps sp := by
  obtain ⟨oc, od, dV, kV, doc, pm, an, cdv, ct, osl, rfl, lk, hcd, _, _⟩ := F.ex
  refine ⟨len, fun A outer s H args us vs Q E hr hg e0 hb r hsp => ?_⟩
  have KX : K.In s.heap := e0.mod.kin.keeps fun b o e => (e0.bs b o e).1
  have lim : s.heap.NoLimit := e0.mod.nolimit.keeps fun b o e => (e0.bs b o e).1
  have kinds : ∀ y ∈ ps.zip us, scope.names.lookup y.1 = some .local ∨ (scope.names.lookup y.1 = some .cell ∧ ((cellsFrom (s.heap.objs.size + 1) scope.names []).lookup y.1).isSome = true) := fun ⟨n, v⟩ hy =>
    (S.par n (List.of_mem_zip hy).1).imp id fun q => ⟨q, PySem.W.cellsFrom_some _ _ _ (.inl q)⟩
  refine codeAny_call_function hr.depth (KX _ _ lk) rfl S.co S.gen rfl (PySem.W.codeRec_of KX hcd) (hb _ _ _ _ ?_)
  refine wpAny_newFunctionEnv_cells S.kind kinds fun env he s1 y => ?_
  subst he
  refine ⟨lim.keeps y.toInCall.keep, codeAny_func ?_⟩
  obtain ⟨t, ht, hq⟩ := hbody cdv A outer s H vs Q E rfl (hr.deeper _) (deeper_guards hg) hsp
  have I := inv_start (CX := L2.CX P w) (E := E) S hr.hd e0 (len _ _ _ _ hsp) r y
  refine wpAny_mono (ht.run [] s1 (L2.start N vs) H _ I hq) (fun fl s' hs => ?_) fun e s' hs => hs
  cases fl with
  | ret u =>
    obtain ⟨v, σ', H', J, rv, q⟩ := hs
    exact ⟨v, H', J.os, J.bare, J.base, J.hok, rv, q⟩
  | next =>
    obtain ⟨σ', H', J, q⟩ := hs
    exact ⟨V.non, H', J.os, J.bare, J.base, J.hok, rfl, q⟩
  | brk => obtain ⟨_, _, _, q⟩ := hs; exact q.elim
  | cont => obtain ⟨_, _, _, q⟩ := hs; exact q.elim
end
def ctLaw (e : Entry) (L : List (Expr × Scope)) (cs : List Str) (er : ErT) : Ct := ⟨e.fn.N, defScope e.st, cells (defScope e.st), L, cs, 2, er⟩
def chkLaw (F : Fs) (gi : List (Str × Int)) (xs : List Str) (L : List (Expr × Scope)) (cs : List Str) (er : ErT) (e : Entry) : Bool := scopeB e.fn.N e.fn.ps (defScope e.st) && (plainA (defArgs e.st) e.fn.ps && chkSs F gi xs (ctLaw e L cs er) e.fn.body (defBody e.st))
/-- the name of a lambda in the law -/
def lamQ (e : Entry) : Str := (envOfC e.name (defScope e.st) 0 0 .none).qual ++ "<lambda>"
/-- what the head tells of the def that catches -/
structure CauF (g : G) (st : Stmt) (cs : List Str) : Prop where
  body : ∃ P, defBody st = cauBody P
  sc : CauS (defScope st)
  args : plainA (defArgs st) ["work"] = true
  def_ : ∃ gA fd, g.mg "_law_caught" = some (.ref gA) ∧ FunD g.K "_law_caught" "_law_caught" (defArgs st) (defBody st) (defScope st) [] [] gA fd
  exm : ∃ C0, g.mg "SignError" = some (.ref C0) ∧ ∀ c ∈ cs, ∀ C : Addr, g.mg c = some (.ref C) → PySem.W.exmOne g.K (.ref C) (.ref C0) = some true
theorem law_ok {P : Program} {w : World} {K : PySem.W.Frag} {mg : Str → Option Value} {base : Heap} {T : Str → Option Fn} {gi : List (Str × Int)} {xs : List Str} {er : ErT} {es : List Entry} {L : List (Expr × Scope)} {cs : List Str} {stC : Stmt} {n : Nat} {e : Entry} {a c Pt : Addr} {fd : FuncData}
    (POK : ∀ g : G, g.P = P → g.w = w → g.K = K → g.mg = mg → g.base = base → POk g T gi xs er es) (CF : ∀ g : G, g.K = K → g.mg = mg → CauF g stC cs) (hT : T e.name = some e.fn) (hc : chkLaw (tabF es) gi xs L cs er e = true)
    (F : FunD K e.name e.name (defArgs e.st) (defBody e.st) (defScope e.st) [] [] a fd) (hcode : fd.code = .ref c) (TB : LamX.TabB base mg c Pt) :
    FnG P w K mg base (n + 3) a fd e.fn.ps (fun vs H Q E => ∀ g : G, g.P = P → g.w = w → g.K = K → g.mg = mg → g.base = base → g.tabs = [(Pt, lamQ e)] → spF g (run T (n + 1) e.name) vs H Q E) := by
  obtain ⟨c1, c2⟩ := and3 hc
  obtain ⟨c2, c3⟩ := and3 c2
  have sc := scopeB_ok c1
  have g0 : G := ⟨P, w, K, mg, base, [(Pt, lamQ e)], fun _ => none⟩
  refine fnG_ofC (N := e.fn.N) F sc (fun vs H Q E h => spF_len (g := ⟨P, w, K, mg, base, [(Pt, lamQ e)], fun _ => none⟩) (n := n + 1) hT vs H Q E (h _ rfl rfl rfl rfl rfl rfl)) fun cdv A outer s H vs Q E hcd hr hgd h => ?_
  let X := cxOf (L2.CX P w) P w K mg base e.fn.N e.name (defScope e.st) a cdv A outer s H E
  let g : G := ⟨P, w, K, mg, base, [(Pt, lamQ e)], fun k => (L[k]?).map fun p => lamD X noArgs p.1 p.2⟩
  have hP : POk g T gi xs er es := POK g rfl rfl rfl rfl rfl
  obtain ⟨io, st, ps, S, r, h⟩ := h g rfl rfl rfl rfl rfl rfl
  have hl : ps.length = e.fn.ps.length := by
    have z := spF_len (g := g) (n := n + 1) hT vs H Q E ⟨io, st, ps, S, r, h⟩
    rw [r.length]; exact z
  have cF := CF g rfl rfl
  obtain ⟨Pc, eb⟩ := cF.body
  obtain ⟨gA, fdC, hmC, FD⟩ := cF.def_
  obtain ⟨C0, hm0, hex⟩ := cF.exm
  have LC : LamC g (ctLaw e L cs er) X := by
    refine ⟨⟨c, Pt, TB, ?_, ?_, fun p hp _ => ?_⟩, fun k d hk => ?_, fun k b sc hk => ?_, ⟨gA, C0, fdC, Pc, defScope stC, defArgs stC, hmC, FD.kp, cF.sc, by rw [← eb]; exact FD, FD.bindsN fun kV doc pm an cdv ct us hl => bind_plain cF.args hl, hm0, hex⟩, Nat.le_refl _⟩
    · show cdv = .ref c
      rw [← hcd]; exact hcode
    · exact List.mem_singleton_self _
    · rw [List.mem_singleton.mp hp]; rfl
    · obtain ⟨p, e1, e2⟩ := Option.map_eq_some_iff.mp (show (L[k]?).map (fun p => lamD X noArgs p.1 p.2) = some d from hk)
      exact ⟨p.1, p.2, e1, e2.symm⟩
    · show (L[k]?).map (fun p => lamD X noArgs p.1 p.2) = _
      have hk : L[k]? = some (b, sc) := hk
      rw [hk]; rfl
  refine ⟨tS g (fun c d _ H => E c d H) (exSs (run T n) e.fn.body), ?_, io, Mini.start e.fn.N ps, st, start_rep r, S, ?_⟩
  · refine sndSs hP.glob (prog_ok hP n) hP.exc e.fn.body (ctLaw e L cs er) _ _ _ ?_ c3
    exact { prog := rfl, w := rfl, K := rfl, mg := rfl, base := rfl, N := rfl, sc := rfl, nd := sc.nd, calm := rfl, room := hr, gd := hgd, fn := (fun _ _ => rfl), tk := takes_of rfl rfl rfl rfl, lam := fun _ => LC, er := hP.err, own := passes_of rfl, kind := sc.kind }
  · simp only [run, hT, callB] at h
    rw [if_pos (by simpa using hl)] at h
    cases em : exSs (run T n) e.fn.body (Mini.start e.fn.N ps) st with
    | stuck => rw [em] at h; exact h.elim
    | exc x ρ s1 => rw [em] at h; exact fun io' H' σ' c d gr S' E' X' => h io' H' c d gr S' X'
    | ok f s1 =>
      rw [em] at h
      cases f with
      | nx ρ => exact fun io' H' σ' gr S' E' => fin_ok S h gr S' .non
      | rt v => exact fun io' H' x gr S' r => fin_ok S h gr S' r
      | bk ρ => exact h.elim
      | ct ρ => exact h.elim
/-! ### from the head's facts -/
def excB (K : PySem.W.Frag) (D : Addr) : Bool := decide (PySem.W.findIn K (.ref D) "__getattribute__" = some (some (.builtin "BaseException.__getattribute__"))) && (decide (PySem.W.findIn K (.ref D) "__getattr__" = some none) && (decide (PySem.W.subIn K (.ref D) (.type "BaseException") = some true) && (PySem.W.hasDictIn K D &&
  (decide (PySem.W.findIn K (.ref D) "__class__" = some (some (.builtin "object.__class__"))) && (decide (PySem.W.specialIn K (.builtin "object.__class__") "__get__" = some (some (.builtin "getset_descriptor.__get__"))) && (decide (PySem.W.takesIn K (.builtin "object.__class__") = some true) && decide (PySem.W.mroIn K D (.type "object") = some true)))))))
theorem excB_ok {K : PySem.W.Frag} {D : Addr} (h : excB K D = true) : ExcC K D := by
  obtain ⟨h1, h⟩ := and3 h
  obtain ⟨h2, h⟩ := and3 h
  obtain ⟨h3, h⟩ := and3 h
  obtain ⟨h4, h⟩ := and3 h
  obtain ⟨h5, h⟩ := and3 h
  obtain ⟨h6, h⟩ := and3 h
  obtain ⟨h7, h8⟩ := and3 h
  exact ⟨of_decide_eq_true h1, of_decide_eq_true h2, of_decide_eq_true h3, h4, of_decide_eq_true h5, of_decide_eq_true h6, of_decide_eq_true h7, of_decide_eq_true h8⟩
/-- one class that isinstance asks of errors -/
def erB1 (K : PySem.W.Frag) (c : Str) (up : Bool) (cs : List Str) : Bool :=
  if c = "ValueError" then up && ((He.Fa.free c).ok K && cs.all fun d => (He.Fa.glo d).ok K && (excB K (He.ga K d) && decide (PySem.W.kitOne K (.ref (He.ga K d)) (.type "ValueError") = some true)))
  else (He.Fa.glo c).ok K && (decide (PySem.W.kitOne K (.type "NoneType") (.ref (He.ga K c)) = some false) && cs.all fun d => (He.Fa.glo d).ok K && (excB K (He.ga K d) && decide (PySem.W.kitOne K (.ref (He.ga K d)) (.ref (He.ga K c)) = some (up || decide (d = c)))))
def erB (er : ErT) (K : PySem.W.Frag) : Bool := er.all fun p => erB1 K p.1 p.2.1 p.2.2
theorem erB_ok {g : G} {h : Heap} {er : ErT} (X : g.K.In h) (Gm : h.Ns mainGlobals g.mg) (hi : g.mg "isinstance" = none) (hb : erB er g.K = true) : ∀ p ∈ er, ErF g p.1 p.2.1 p.2.2 := by
  intro p hp
  have h1 := List.all_eq_true.mp hb p hp
  refine ⟨?_, hi⟩
  unfold erB1 at h1
  split at h1
  · rename_i hc
    obtain ⟨a1, a2⟩ := and3 h1
    obtain ⟨a2, a3⟩ := and3 a2
    refine .inr ⟨He.free_ok X Gm a2, hc, a1, fun d hd => ?_⟩
    obtain ⟨b1, b2⟩ := and3 (List.all_eq_true.mp a3 d hd)
    obtain ⟨b2, b3⟩ := and3 b2
    exact ⟨_, He.glo_ok X Gm b1, excB_ok b2, of_decide_eq_true b3⟩
  · obtain ⟨a1, a2⟩ := and3 h1
    obtain ⟨a2, a3⟩ := and3 a2
    refine .inl ⟨_, He.glo_ok X Gm a1, of_decide_eq_true a2, fun d hd => ?_⟩
    obtain ⟨b1, b2⟩ := and3 (List.all_eq_true.mp a3 d hd)
    obtain ⟨b2, b3⟩ := and3 b2
    exact ⟨_, He.glo_ok X Gm b1, excB_ok b2, of_decide_eq_true b3⟩
def entC (st : Stmt) : He.DefD := ⟨("_law_caught", none), "_law_caught", "_law_caught", defArgs st, defBody st, defScope st, [], []⟩
def faL (es : List Entry) (xs : List Str) (gi : List (Str × Int)) (cs : List Str) (e : Entry) : List He.Fa := fasOf (es ++ [e]) xs gi ++ (.glo "_law_caught" :: .glo "SignError" :: (cs.map .glo ++ cs.map fun c => .exm c "SignError" true))
def fnL (es : List Entry) (e : Entry) (stC : Stmt) : List He.DefD := fnsOf (es ++ [e]) ++ [entC stC]
theorem pok_ofL {g : G} {h : Heap} {er : ErT} {es : List Entry} {xs : List Str} {gi : List (Str × Int)} {T : Str → Option Fn} (X : g.K.In h) (Gm : h.Ns mainGlobals g.mg) (her : erB er g.K = true) (hf : ∀ f ∈ fasOf es xs gi, f.ok g.K = true) (hd : ∀ d ∈ fnsOf es, ∃ fd, FunD g.K d.name d.qual d.params d.body d.scope (d.dvs g.K) (d.kws g.K) (He.fAd g.K d.at_) fd)
    (chk : es.all (chkFn (tabF es) gi xs er) = true) (tab : ∀ e ∈ es, T e.name = some e.fn) : POk g T gi xs er es where
  err := erB_ok X Gm (He.free_ok X Gm (hf _ (List.mem_append_right _ (List.mem_append_left _ (List.mem_map.mpr ⟨"isinstance", by decide, rfl⟩))))) her
  glob := ⟨fun x hx => He.free_ok X Gm (hf _ (List.mem_append_right _ (List.mem_append_left _ (List.mem_map.mpr ⟨x, hx, rfl⟩)))),
    fun p hp => He.int_ok X Gm (hf (.int p.1 p.2) (List.mem_append_right _ (List.mem_append_right _ (List.mem_append_right _ (List.mem_append_right _ (List.mem_map.mpr ⟨p, hp, rfl⟩))))))⟩
  exc := fun x hx => by
    have c1 := hf (.exc x) (List.mem_append_right _ (List.mem_append_right _ (List.mem_append_left _ (List.mem_map.mpr ⟨x, hx, rfl⟩))))
    have c2 := hf (.glo x) (List.mem_append_right _ (List.mem_append_right _ (List.mem_append_right _ (List.mem_append_left _ (List.mem_map.mpr ⟨x, hx, rfl⟩)))))
    obtain ⟨k1, k2, k3, k4⟩ := He.exc_ok c1
    exact ⟨_, _, _, _, _, He.glo_ok X Gm c2, F.excBase_ValueError, k1, k2, k3, k4⟩
  def_ := fun e he => by
    obtain ⟨fd, F⟩ := hd (entD e) (List.mem_map.mpr ⟨e, he, rfl⟩)
    exact ⟨_, fd, He.glo_ok X Gm (hf (.glo e.name) (List.mem_append_left _ (List.mem_map.mpr ⟨e, he, rfl⟩))), F⟩
  chk := fun e he => List.all_eq_true.mp chk e he
  tab := tab
theorem fas_sub {es : List Entry} {e : Entry} {xs : List Str} {gi : List (Str × Int)} {f : He.Fa} (h : f ∈ fasOf es xs gi) : f ∈ fasOf (es ++ [e]) xs gi := by
  unfold fasOf at *
  rcases List.mem_append.mp h with h | h
  · obtain ⟨d, h1, h2⟩ := List.mem_map.mp h
    exact List.mem_append_left _ (List.mem_map.mpr ⟨d, List.mem_append_left _ h1, h2⟩)
  · exact List.mem_append_right _ h
theorem cauF_of {g : G} {h : Heap} {stC : Stmt} {cs : List Str} (X : g.K.In h) (Gm : h.Ns mainGlobals g.mg) (hb : ∃ P, defBody stC = cauBody P) (hs : CauS (defScope stC)) (ha : plainA (defArgs stC) ["work"] = true)
    (hf : ∀ f ∈ (He.Fa.glo "_law_caught" :: .glo "SignError" :: (cs.map .glo ++ cs.map fun c => .exm c "SignError" true)), f.ok g.K = true) (hd : ∃ fd, FunD g.K "_law_caught" "_law_caught" (defArgs stC) (defBody stC) (defScope stC) [] [] (He.fAd g.K ("_law_caught", none)) fd) : CauF g stC cs where
  body := hb
  sc := hs
  args := ha
  def_ := by
    obtain ⟨fd, F⟩ := hd
    exact ⟨_, fd, He.glo_ok X Gm (hf _ (List.mem_cons_self ..)), F⟩
  exm := by
    refine ⟨_, He.glo_ok X Gm (hf _ (List.mem_cons_of_mem _ (List.mem_cons_self ..))), fun c hc C hC => ?_⟩
    have z := He.glo_ok X Gm (hf (.glo c) (List.mem_cons_of_mem _ (List.mem_cons_of_mem _ (List.mem_append_left _ (List.mem_map.mpr ⟨c, hc, rfl⟩)))))
    rw [z] at hC
    cases hC
    exact of_decide_eq_true (hf (.exm c "SignError" true) (List.mem_cons_of_mem _ (List.mem_cons_of_mem _ (List.mem_append_right _ (List.mem_map.mpr ⟨c, hc, rfl⟩)))))
theorem walk_lawL {l : PySem.W.OpenLaw} {n m : Nat} {q : Program} {loose : List Str} {XP : (Str → Option Value) → Heap → Prop} {d : DefRec} {x : Str} {es : List Entry} {er : ErT} {xs cs : List Str} {gi : List (Str × Int)} {L : List (Expr × Scope)} {T : Str → Option Fn} {e : Entry} {stC : Stmt}
    (hn : l.most = some n) (hn2 : n ≤ sizeLine) (hdf : d.params.defaults = []) (hr : Room (m + 3) callerA)
    (chk : es.all (chkFn (tabF es) gi xs er) = true) (tab : ∀ e ∈ es, T e.name = some e.fn) (hT : T e.name = some e.fn) (hc : chkLaw (tabF es) gi xs L cs er e = true) (hb : ∃ P, defBody stC = cauBody P) (hs : CauS (defScope stC)) (hca : plainA (defArgs stC) ["work"] = true)
    (hname : e.name = "law") (hd : d.name = "law") (hps : e.fn.ps = [x]) (hL : LawT T (m + 1) n) :
    PySem.W.WalkO q loose XP (fun w h => ∃ K : PySem.W.Frag, K.In h ∧ He.SaysX (faL es xs gi cs e) (fnL es e stC) [] [("law", none)] (erB er) w h K) l.row.toRowW d [] (fun f vs => PySem.call f vs) := by
  refine walk_ofTG (x := x) (k := m + 3) hn hn2 hdf hr fun w mg fa h ⟨K, KX, c⟩ Gm hmg => ?_
  have cd := c.t.d
  have hf : ∀ f ∈ faL es xs gi cs e, f.ok K = true := fun f hf => cd.facts hf
  have P0 : ∀ g : G, g.P = l.prog → g.w = w → g.K = K → g.mg = mg → POk g T gi xs er es := fun g e1 e2 e3 e4 => by
    refine pok_ofL (h := h) (by rw [e3]; exact KX) (by rw [e4]; exact Gm) (by rw [e3]; exact c.more) (fun f hh => by rw [e3]; exact hf f (List.mem_append_left _ (fas_sub hh))) (fun d hh => ?_) chk tab
    rw [e3]
    obtain ⟨y, h1, h2⟩ := List.mem_map.mp hh
    exact cd.defs (d := d) (List.mem_append_left _ (List.mem_map.mpr ⟨y, List.mem_append_left _ h1, h2⟩))
  have C0 : ∀ g : G, g.K = K → g.mg = mg → CauF g stC cs := fun g e3 e4 => by
    refine cauF_of (h := h) (by rw [e3]; exact KX) (by rw [e4]; exact Gm) hb hs hca (fun f hh => by rw [e3]; exact hf f (List.mem_append_right _ hh)) ?_
    rw [e3]
    exact cd.defs (d := entC stC) (List.mem_append_right _ (List.mem_singleton_self _))
  obtain ⟨fd, F⟩ := cd.defs (d := entD e) (List.mem_append_left _ (List.mem_map.mpr ⟨e, List.mem_append_right _ (List.mem_singleton_self _), rfl⟩))
  have F : FunD K e.name e.name (defArgs e.st) (defBody e.st) (defScope e.st) [] [] (He.fAd K (e.name, none)) fd := F
  have h1 : mg e.name = some (.ref (He.fAd K (e.name, none))) := He.glo_ok KX Gm (hf (.glo e.name) (List.mem_append_left _ (List.mem_append_left _ (List.mem_map.mpr ⟨e, List.mem_append_right _ (List.mem_singleton_self _), rfl⟩))))
  have ea : He.fAd K (e.name, none) = fa := by
    rw [hd] at hmg
    rw [hname] at h1
    have z := h1.symm.trans hmg
    rw [hname]
    cases z
    rfl
  have hcode : fd.code = .ref (He.codeOf K ("law", none)) := by
    obtain ⟨oc, od, dV, kV, doc, pm, an, cdv, ct, osl, rfl, lk, hcd, _, _⟩ := F.ex
    obtain ⟨c0, ec⟩ := He.codeIn_ref hcd
    subst ec
    rw [hname] at lk
    rw [He.codeOf_eq lk rfl]
  have c2 := (and3 (and3 hc).2).1
  rw [ea] at F
  have tm : (("law", none) : He.Defn) ∈ [(("law", none) : He.Defn)] := List.mem_singleton_self _
  refine ⟨K, [He.cT K ("law", none)], fd, fun vs H Q E => ∀ g : G, g.P = l.prog → g.w = w → g.K = K → g.mg = mg → g.tabs = [((He.cT K ("law", none)).2, lamQ e)] → spF g (run T (m + 1) "law") vs H Q E, KX, ⟨fun p hp => ?_, fun p hp => ?_, fun p hp => ?_⟩, ?_, fun H a ns hl hH hS g e1 e2 e3 e4 e5 => ?_, fun base kB gB tB => ?_⟩
  · rw [List.mem_singleton.mp hp]; exact c.empty _ tm
  · rw [List.mem_singleton.mp hp]; exact c.out _ tm
  · rw [List.mem_singleton.mp hp]; exact PySem.W.codeHd_of_K KX (c.hd _ tm)
  · have b := FunD.bindsA (ps := [x]) F fun kV doc pm an cdv ct us hl => by
      have z := bind_plain (x := e.name) (qual := e.name) (body := defBody e.st) (scope := defScope e.st) (kV := kV) (doc := doc) (pm := pm) (an := an) (cdv := cdv) (ct := ct) c2 (us := us) (by rw [hps]; exact hl)
      rw [hps] at z
      exact z
    exact fun s u => b s [u] rfl
  · refine law_sp (g := g) hL (fun p hp => ?_) hl (by rw [e3]; exact hS)
    rw [e5] at hp
    rw [List.mem_singleton.mp hp]
    exact LamX.TabS.nil (hH _ (List.mem_singleton_self _))
  · have F2 := law_ok (P := l.prog) (w := w) (base := base) (n := m) (a := fa) (fun g e1 e2 e3 e4 _ => P0 g e1 e2 e3 e4) C0 hT hc F hcode (tB _ (List.mem_singleton_self _))
    rw [hps, hname] at F2
    exact ⟨fun vs H Q E h => F2.len vs H Q E fun g a b c d _ f => h g a b c d f, fun A outer s H args us vs Q E k1 k2 k3 k4 k5 h => F2.run A outer s H args us vs Q E k1 k2 k3 k4 k5 fun g a b c d _ f => h g a b c d f⟩
end Mini

set_option Elab.async false
set_option linter.all false
set_option maxRecDepth 100000
/-! Mini20: what a law with lambdas hands in: found in its text. -/
namespace Mini
open PySem L2
/-- the positions of the def that catches -/
def cauPs : List Stmt → Option CauP
  | [.Assign [.Name _ q1] (.Constant _ k q2) q3, .Try [.Expr (.Call (.Name _ p1) _ _ p2) p3] [.ExceptHandler (some (.Name _ np)) _ [.Assign [.Name _ q4] (.Name _ q5) q6] pos'] _ _ pos, .Return (some (.Name _ q7)) q8] => some ⟨q1, q2, q3, q4, q5, q6, q7, q8, p1, p2, p3, np, pos, pos', k⟩
  | _ => none
def cauSB (sg : Scope) : Bool := scopeB cauN ["work"] sg && (decide (sg.names.lookup ("work" : Str) = some .local) && (decide (sg.names.lookup ("caught" : Str) = some .local) && (decide (sg.names.lookup ("error" : Str) = some .local) && decide (sg.names.lookup ("SignError" : Str) = some .globalImplicit))))
theorem cauSB_ok {sg : Scope} (h : cauSB sg = true) : CauS sg := by
  obtain ⟨h1, h⟩ := and3 h
  obtain ⟨h2, h⟩ := and3 h
  obtain ⟨h3, h⟩ := and3 h
  obtain ⟨h4, h5⟩ := and3 h
  exact ⟨scopeB_ok h1, of_decide_eq_true h2, of_decide_eq_true h3, of_decide_eq_true h4, of_decide_eq_true h5⟩
/-- what a node holds, in the order of the text -/
def kids : Expr ⊕ Stmt → List (Expr ⊕ Stmt)
  | .inr (.For t i b _ _) => .inl i :: b.map .inr
  | .inr (.If c b o _) => .inl c :: (b ++ o).map .inr
  | .inr (.While c b _ _) => .inl c :: b.map .inr
  | .inr (.Assign _ v _) => [.inl v]
  | .inr (.Return (some v) _) => [.inl v]
  | .inr (.Expr v _) => [.inl v]
  | .inl (.Compare a _ bs _) => (a :: bs).map .inl
  | .inl (.BoolOp _ l _) => l.map .inl
  | .inl (.Call f l _ _) => (f :: l).map .inl
  | .inl (.List l _) => l.map .inl
  | .inl (.Tuple l _ _) => l.map .inl
  | .inl (.UnaryOp _ a _) => [.inl a]
  | .inl (.BinOp a _ b _) => [.inl a, .inl b]
  | .inl (.IfExp c a b _) => [.inl c, .inl a, .inl b]
  | .inl (.Subscript a b _) => [.inl a, .inl b]
  | .inl (.ListComp e _ _ _) => [.inl e]
  | _ => []
def walkP : List Nat → Expr ⊕ Stmt → Option (Expr ⊕ Stmt)
  | [], x => some x
  | i :: r, x => ((kids x)[i]?).bind (walkP r)
/-- the lambda at a place of a def's body -/
def lamAt (b : List Stmt) : List Nat → Option (Expr × Scope)
  | [] => none
  | i :: r => match (b[i]?).bind fun s => walkP r (.inr s) with
    | some (.inl (.Lambda _ e sc _)) => some (e, sc)
    | _ => none
end Mini
namespace Mini
open PySem
def cauPd (b : List Stmt) : CauP := (cauPs b).getD (let z : Pos := ⟨0, 0, 0, 0⟩; ⟨z, z, z, z, z, z, z, z, z, z, z, z, z, z, 0⟩)
end Mini
namespace Mini
open PySem
theorem tab_okL {es : List Entry} {e : Entry} {tb : List (Str × Fn)} (h : (es ++ [e]).map (fun e => (e.name, e.fn)) = tb) (nd : (tb.map (·.1)).Nodup) : ∀ x ∈ es, tabT tb x.name = some x.fn := fun x hx => tab_ok h nd x (List.mem_append_left _ hx)
end Mini

set_option Elab.async false
set_option linter.all false
set_option maxRecDepth 100000
/-! MiniP: the evaluator's equations, for plain proofs. -/
namespace Mini
open PySem
section
variable {α β : Type}
def bR (r : R α) (f : α → Store → R β) : R β := match r with | .ok a s => f a s | .exc x s => .exc x s | .stuck => .stuck
@[simp] theorem bR_ok {a : α} {s : Store} {f : α → Store → R β} : bR (.ok a s) f = f a s := id rfl
@[simp] theorem bR_exc {x : PV} {s : Store} {f : α → Store → R β} : bR (.exc x s) f = .exc x s := id rfl
@[simp] theorem bR_stuck {f : α → Store → R β} : bR .stuck f = .stuck := id rfl
def oR (o : Option α) (s : Store) : R α := match o with | some a => .ok a s | none => .stuck
@[simp] theorem oR_some {a : α} {s : Store} : oR (some a) s = .ok a s := id rfl
def sR (r : R α) (ρ : Env) (f : α → Store → SR) : SR := match r with | .ok a s => f a s | .exc x s => .exc x ρ s | .stuck => .stuck
@[simp] theorem sR_ok {a : α} {s : Store} {ρ : Env} {f : α → Store → SR} : sR (.ok a s) ρ f = f a s := id rfl
@[simp] theorem sR_exc {x : PV} {s : Store} {ρ : Env} {f : α → Store → SR} : sR (.exc x s) ρ f = .exc x ρ s := id rfl
def kR (r : SR) (f : Env → Store → SR) : SR := match r with | .ok (.nx ρ) s => f ρ s | x => x
@[simp] theorem kR_nx {ρ : Env} {s : Store} {f : Env → Store → SR} : kR (.ok (.nx ρ) s) f = f ρ s := id rfl
@[simp] theorem kR_rt {v : PV} {s : Store} {f : Env → Store → SR} : kR (.ok (.rt v) s) f = .ok (.rt v) s := id rfl
@[simp] theorem kR_exc {v : PV} {ρ : Env} {s : Store} {f : Env → Store → SR} : kR (.exc v ρ s) f = .exc v ρ s := id rfl
def tR (r : R Env) : SR := match r with | .ok ρ s => .ok (.nx ρ) s | _ => .stuck
@[simp] theorem tR_ok {ρ : Env} {s : Store} : tR (.ok ρ s) = .ok (.nx ρ) s := id rfl
end
section
variable {Φ : Str → List PV → M PV} {ρ : Env} {s : Store} {a b c : E} {es : Es}
@[simp] theorem bnd_eq {α β : Type} (m : M α) (f : α → M β) (s : Store) : m.bnd f s = bR (m s) f := id rfl
@[simp] theorem lift_eq {α : Type} (f : Store → Option α) (s : Store) : M.lift f s = oR (f s) s := by unfold M.lift oR; cases f s <;> rfl
@[simp] theorem opt_eq {α : Type} (o : Option α) (s : Store) : (M.opt o : M α) s = oR o s := by cases o <;> rfl
theorem liftS_eq {α : Type} (f : Store → Option (α × Store)) (s : Store) : M.liftS f s = (match f s with | some (v, s') => .ok v s' | none => .stuck) := rfl
@[simp] theorem ret_eq {α : Type} (a : α) (s : Store) : (M.ret a : M α) s = .ok a s := id rfl
@[simp] theorem evE_var {i : Nat} : evE Φ (.var i) ρ s = oR (ρ[i]?.join) s := by simp only [evE, opt_eq]
@[simp] theorem evE_call {f : Str} : evE Φ (.call f es) ρ s = bR (evEs Φ es ρ s) (Φ f) := by simp only [evE, bnd_eq]
@[simp] theorem exSs_nil : exSs Φ .nil ρ s = .ok (.nx ρ) s := by simp only [exSs]
@[simp] theorem exSs_cons {x : S} {r : Ss} : exSs Φ (.cons x r) ρ s = kR (exS Φ x ρ s) (exSs Φ r) := by
  simp only [exSs]
  cases exS Φ x ρ s with
  | ok f s => cases f <;> rfl
  | exc _ _ _ => rfl
  | stuck => rfl
@[simp] theorem exS_asg {t : Tg} {e : E} : exS Φ (.asg t e) ρ s = sR (evE Φ e ρ s) ρ fun v s1 => tR (evTg Φ t v ρ s1) := by
  simp only [exS]
  cases evE Φ e ρ s with
  | ok v s1 =>
    show (match evTg Φ t v ρ s1 with | .ok ρ' s2 => SR.ok (.nx ρ') s2 | _ => .stuck) = tR (evTg Φ t v ρ s1)
    cases evTg Φ t v ρ s1 <;> rfl
  | exc _ _ => rfl
  | stuck => rfl
@[simp] theorem exS_par {ix : List Nat} : exS Φ (.par ix es) ρ s = sR (evEs Φ es ρ s) ρ fun vs s1 => if decide (vs.length = ix.length) then .ok (.nx (setAll ix vs ρ)) s1 else .stuck := by
  simp only [exS]
  cases evEs Φ es ρ s <;> rfl
@[simp] theorem exS_ex {e : E} : exS Φ (.ex e) ρ s = sR (evE Φ e ρ s) ρ fun _ s1 => .ok (.nx ρ) s1 := by
  simp only [exS]
  cases evE Φ e ρ s <;> rfl
@[simp] theorem exS_ret {e : E} : exS Φ (.ret e) ρ s = sR (evE Φ e ρ s) ρ fun v s1 => .ok (.rt v) s1 := by
  simp only [exS]
  cases evE Φ e ρ s <;> rfl
@[simp] theorem exS_iff {c : E} {x y : Ss} : exS Φ (.iff c x y) ρ s = sR (bR (evE Φ c ρ s) truthM) ρ fun k s1 => if k then exSs Φ x ρ s1 else exSs Φ y ρ s1 := by
  simp only [exS, bnd_eq]
  cases bR (evE Φ c ρ s) truthM with
  | ok k s1 => cases k <;> rfl
  | exc _ _ => rfl
  | stuck => rfl
@[simp] theorem exS_forr {t : Tg} {it : It} {b : Ss} : exS Φ (.forr t it b) ρ s = sR (evIt Φ it ρ s) ρ fun w s1 => forGo w.2 (fun x ρ => evTg Φ t x ρ) (exSs Φ b) w.1 ρ s1 := by
  simp only [exS]
  cases evIt Φ it ρ s <;> rfl
@[simp] theorem exS_whl {n : Nat} {c : E} {b : Ss} : exS Φ (.whl n c b) ρ s = whlGo (fun ρ => (evE Φ c ρ).bnd truthM) (exSs Φ b) n ρ s := by simp only [exS]
@[simp] theorem exS_rse {c : Str} : exS Φ (.rse c) ρ s = .exc (.exn c [] []) ρ s := by simp only [exS]
@[simp] theorem exS_retN : exS Φ .retN ρ s = .ok (.rt .non) s := by simp only [exS]
@[simp] theorem exS_pas : exS Φ .pas ρ s = .ok (.nx ρ) s := by simp only [exS]
@[simp] theorem exS_brk : exS Φ .brk ρ s = .ok (.bk ρ) s := by simp only [exS]
@[simp] theorem exS_cnt : exS Φ .cnt ρ s = .ok (.ct ρ) s := by simp only [exS]
@[simp] theorem truthM_eq {v : PV} : truthM v s = oR (truth s v) s := by unfold truthM; exact lift_eq _ _

theorem ite_app {α : Type} {c : Prop} [Decidable c] {f g : Store → α} {s : Store} : (if c then f else g) s = if c then f s else g s := by split <;> rfl
theorem map_eq {α β : Type} (o : Option α) (f : α → β) (s : Store) : bR (oR o s) (fun a s => .ok (f a) s) = oR (o.map f) s := by cases o <;> rfl
theorem bR_congr {α β : Type} {r : R α} {f g : α → Store → R β} (h : ∀ a s, f a s = g a s) : bR r f = bR r g := by cases r <;> first | rfl | exact h _ _
@[simp] theorem evE_non : evE Φ .non ρ s = .ok .non s := by rw [evE]; rfl
@[simp] theorem evE_bl {x : Bool} : evE Φ (.bl x) ρ s = .ok (.bl x) s := by rw [evE]; rfl
@[simp] theorem evE_int {x : Int} : evE Φ (.int x) ρ s = .ok (.int x) s := by rw [evE]; rfl
@[simp] theorem evE_str {x : Str} : evE Φ (.str x) ρ s = .ok (.str x) s := by rw [evE]; rfl
@[simp] theorem evE_gint {x : Str} {i : Int} : evE Φ (.gint x i) ρ s = .ok (.int i) s := by rw [evE]; rfl
@[simp] theorem evE_tup : evE Φ (.tup es) ρ s = bR (evEs Φ es ρ s) fun vs s1 => if szOk vs.length then .ok (.tup vs) s1 else .stuck := by
  rw [evE]
  exact bR_congr fun vs s1 => ite_app
@[simp] theorem evE_lst {mu : Bool} : evE Φ (.lst mu es) ρ s = bR (evEs Φ es ρ s) fun vs s1 => mkLst mu vs s1 := by rw [evE]; rfl
@[simp] theorem evE_op {o : Bop} : evE Φ (.op o a b) ρ s = bR (evE Φ a ρ s) fun x s1 => bR (evE Φ b ρ s1) fun y s2 => oR (bop o x y s2) s2 := by rw [evE]; rfl
@[simp] theorem evE_neg : evE Φ (.neg a) ρ s = bR (evE Φ a ρ s) fun x s1 => oR (negV x) s1 := by rw [evE]; rfl
@[simp] theorem evE_cmp {o : Cop} : evE Φ (.cmp o a b) ρ s = bR (evE Φ a ρ s) fun x s1 => bR (evE Φ b ρ s1) fun y s2 => oR ((cop o x y s2).map .bl) s2 := by
  rw [evE]
  exact bR_congr fun x s1 => bR_congr fun y s2 => map_eq (cop o x y s2) PV.bl s2
@[simp] theorem evE_chain {o o' : Cop} : evE Φ (.chain o o' a b c) ρ s = bR (evE Φ a ρ s) fun x s1 => bR (evE Φ b ρ s1) fun y s2 => bR (oR (cop o x y s2) s2) fun z s2 => if z then (bR (evE Φ c ρ s2) fun u s3 => oR ((cop o' y u s3).map .bl) s3) else .ok (.bl false) s2 := by
  rw [evE]
  refine bR_congr fun x s1 => bR_congr fun y s2 => bR_congr fun z s3 => ite_app.trans ?_
  congr 1
  exact bR_congr fun u s4 => map_eq (cop o' y u s4) PV.bl s4
@[simp] theorem evE_not : evE Φ (.not a) ρ s = bR (evE Φ a ρ s) fun x s1 => oR ((truth s1 x).map fun k => .bl (!k)) s1 := by
  rw [evE]
  exact bR_congr fun x s1 => map_eq (truth s1 x) (fun k => PV.bl (!k)) s1
@[simp] theorem evE_and : evE Φ (.and a b) ρ s = bR (evE Φ a ρ s) fun x s1 => bR (oR (truth s1 x) s1) fun k s1 => if k then evE Φ b ρ s1 else .ok x s1 := by
  rw [evE]
  exact bR_congr fun x s1 => bR_congr fun k s2 => ite_app
@[simp] theorem evE_or : evE Φ (.or a b) ρ s = bR (evE Φ a ρ s) fun x s1 => bR (oR (truth s1 x) s1) fun k s1 => if k then .ok x s1 else evE Φ b ρ s1 := by
  rw [evE]
  exact bR_congr fun x s1 => bR_congr fun k s2 => ite_app
@[simp] theorem evE_ite : evE Φ (.ite c a b) ρ s = bR (evE Φ c ρ s) fun x s1 => bR (oR (truth s1 x) s1) fun k s1 => if k then evE Φ a ρ s1 else evE Φ b ρ s1 := by
  rw [evE]
  exact bR_congr fun x s1 => bR_congr fun k s2 => ite_app
@[simp] theorem evE_bi {k : Bi} : evE Φ (.bi k es) ρ s = bR (evEs Φ es ρ s) fun vs s1 => oR (biF k vs s1) s1 := by rw [evE]; rfl
@[simp] theorem evE_meth {m : Mt} : evE Φ (.meth m a es) ρ s = bR (evE Φ a ρ s) fun x s1 => bR (oR (lstOf s1 x) s1) fun _ s1 => bR (evEs Φ es ρ s1) fun vs s2 => M.liftS (meth m x vs) s2 := by rw [evE]; rfl
@[simp] theorem evE_sub : evE Φ (.sub a b) ρ s = bR (evE Φ a ρ s) fun x s1 => bR (evE Φ b ρ s1) fun y s2 => oR (subG x y s2) s2 := by rw [evE]; rfl
@[simp] theorem evE_isi {t : Ty} : evE Φ (.isi a t) ρ s = bR (evE Φ a ρ s) fun x s1 => oR (isiF t x s1) s1 := by rw [evE]; rfl
@[simp] theorem evE_isx {k : Str} {up : Bool} {cs : List Str} : evE Φ (.isx a k up cs) ρ s = bR (evE Φ a ρ s) fun x s1 => oR (isxF k up cs x) s1 := by rw [evE]; rfl
@[simp] theorem evE_cnt : evE Φ (.cnt a b) ρ s = bR (evE Φ a ρ s) fun x s1 => bR (oR (lstOf s1 x) s1) fun _ s1 => bR (evE Φ b ρ s1) fun y s2 => oR (cntF x y s2) s2 := by rw [evE]; rfl
@[simp] theorem evE_callk {f : Str} {ks : List Str} {pm : List Nat} : evE Φ (.callk f ks pm es) ρ s = bR (evEs Φ es ρ s) fun vs s1 => Φ f (permV pm vs) s1 := by rw [evE]; rfl
@[simp] theorem evE_lamk {k : Nat} : evE Φ (.lamk k) ρ s = .ok (.clo k) s := by rw [evE]; rfl
/-- the error told as a value -/
def cR (cs : List Str) (r : R PV) : R PV := match r with | .ok _ s => .ok .non s | .exc (.exn c ns vs) s => if c ∈ cs then .ok (.exn c ns vs) s else .stuck | _ => .stuck
@[simp] theorem cR_ok {cs : List Str} {v : PV} : cR cs (.ok v s) = .ok .non s := id rfl
@[simp] theorem cR_exc {cs : List Str} {c : Str} {ns : List Str} {vs : List PV} : cR cs (.exc (.exn c ns vs) s) = if c ∈ cs then .ok (.exn c ns vs) s else .stuck := id rfl
theorem caughtM_eq {cs : List Str} {m : M PV} : caughtM cs m s = cR cs (m s) := by
  unfold caughtM cR
  cases m s with
  | ok _ _ => rfl
  | exc x s' =>
    cases x <;> first | rfl | (simp only; split <;> simp_all)
  | stuck => rfl
@[simp] theorem evE_caughtL {k : Nat} {cs : List Str} : evE Φ (.caughtL k cs a) ρ s = cR cs (evE Φ a ρ s) := by rw [evE]; exact caughtM_eq
theorem evE_caught {i k : Nat} {cs : List Str} (h : ρ[i]?.join = some (.clo k)) : evE Φ (.caught i cs es) ρ s = cR cs (evNth Φ es k ρ s) := by
  rw [evE, h]
  exact caughtM_eq
@[simp] theorem evNth_zero {r : Es} : evNth Φ (.cons a r) 0 ρ s = evE Φ a ρ s := by rw [evNth]
@[simp] theorem evNth_succ {r : Es} {k : Nat} : evNth Φ (.cons a r) (k + 1) ρ s = evNth Φ r k ρ s := by rw [evNth]
@[simp] theorem evE_dict {mu : Bool} : evE Φ (.dict mu es) ρ s = bR (evEs Φ es ρ s) fun vs s1 => if (pairUp vs).all (fun p => keyB p.1) && decide ((pairUp vs).length ≤ 15) then mkDic mu false (dfill ([], []) (pairUp vs)) s1 else .stuck := by
  rw [evE]
  exact bR_congr fun vs s1 => ite_app
@[simp] theorem evE_dnew {mu t : Bool} : evE Φ (.dnew mu t) ρ s = mkDic mu t ([], []) s := by rw [evE]
@[simp] theorem evE_dzip {mu : Bool} : evE Φ (.dzip mu a b) ρ s = bR (evE Φ a ρ s) fun x s1 => bR (evE Φ b ρ s1) fun y s2 => bR (oR (dzipF x y s2) s2) fun d s2 => mkDic mu true d s2 := by rw [evE]; rfl
@[simp] theorem evE_lset : evE Φ (.lset a) ρ s = bR (evE Φ a ρ s) fun x s1 => oR (lsetF x s1) s1 := by rw [evE]; rfl
@[simp] theorem evE_sset : evE Φ (.sset a) ρ s = bR (evE Φ a ρ s) fun x s1 => oR (ssetF x s1) s1 := by rw [evE]; rfl
@[simp] theorem evE_mls : evE Φ (.mls a) ρ s = bR (evE Φ a ρ s) fun x s1 => bR (oR (seqOf s1 x) s1) fun xs s1 => alloc (.lst xs) s1 := by rw [evE]; rfl
@[simp] theorem evE_mop {o : Bop} : evE Φ (.mop o a b) ρ s = bR (evE Φ a ρ s) fun x s1 => bR (evE Φ b ρ s1) fun y s2 => bR (oR (lopF o x y s2) s2) fun xs s2 => alloc (.lst xs) s2 := by rw [evE]; rfl
@[simp] theorem evE_rgl {k : Nat} : evE Φ (.rgl k a) ρ s = bR (evE Φ a ρ s) fun y s1 => bR (oR (intV y) s1) fun j s1 => mkRg k 0 j s1 := by
  rw [evE]
  exact bR_congr fun y s1 => by rw [bnd_eq, opt_eq]
@[simp] theorem evE_rgl2 {k : Nat} : evE Φ (.rgl2 k a b) ρ s = bR (evE Φ a ρ s) fun x s1 => bR (evE Φ b ρ s1) fun y s2 => bR (oR (intV x) s2) fun i s2 => bR (oR (intV y) s2) fun j s2 => mkRg k i j s2 := by
  rw [evE]
  refine bR_congr fun x s1 => bR_congr fun y s2 => ?_
  rw [bnd_eq, opt_eq]
  exact bR_congr fun i s3 => by rw [bnd_eq, opt_eq]
@[simp] theorem evE_slc {lo hi : Es} : evE Φ (.slc a lo hi) ρ s = bR (evE Φ a ρ s) fun x s1 => bR (evO Φ lo ρ s1) fun l s2 => bR (evO Φ hi ρ s2) fun h s3 => oR (slcG x l h s3) s3 := by rw [evE]; rfl
@[simp] theorem evO_nil : evO Φ .nil ρ s = .ok none s := by rw [evO]; rfl
@[simp] theorem evO_cons {r : Es} : evO Φ (.cons a r) ρ s = bR (evE Φ a ρ s) fun v s1 => oR ((intV v).map some) s1 := by
  rw [evO]
  refine bR_congr fun v s1 => ?_
  rw [bnd_eq, opt_eq]
  exact map_eq (intV v) some s1
@[simp] theorem evEs_nil : evEs Φ .nil ρ s = .ok [] s := by rw [evEs]; rfl
@[simp] theorem evEs_cons {r : Es} : evEs Φ (.cons a r) ρ s = bR (evE Φ a ρ s) fun v s1 => bR (evEs Φ r ρ s1) fun vs s2 => .ok (v :: vs) s2 := by rw [evEs]; rfl
@[simp] theorem evIf_nil : evIf Φ .nil ρ s = .ok true s := by rw [evIf]; rfl
@[simp] theorem evIf_cons {r : Es} : evIf Φ (.cons a r) ρ s = bR (evE Φ a ρ s) fun v s1 => oR (truth s1 v) s1 := by
  rw [evIf]
  exact bR_congr fun v s1 => truthM_eq
@[simp] theorem evTg_nm {i : Nat} {v : PV} : evTg Φ (.nm i) v ρ s = if i < ρ.length then .ok (ρ.set i (some v)) s else .stuck := by
  rw [evTg]
  by_cases h : i < ρ.length
  · rw [if_pos h, if_pos (decide_eq_true h)]; rfl
  · rw [if_neg h, if_neg (by simpa using h)]; rfl
@[simp] theorem evTg_tp {ts : Tgs} {xs : List PV} : evTg Φ (.tp ts) (.tup xs) ρ s = evTgs Φ ts xs ρ s := by rw [evTg]
@[simp] theorem evTg_sb {v : PV} : evTg Φ (.sb a b) v ρ s = bR (evE Φ a ρ s) fun x s1 => bR (evE Φ b ρ s1) fun y s2 => (match setI x y v s2 with | some s3 => .ok ρ s3 | none => .stuck) := by
  rw [evTg]
  refine bR_congr fun x s1 => bR_congr fun y s2 => ?_
  rw [liftS_eq]
  cases setI x y v s2 <;> rfl
@[simp] theorem evTgs_nil : evTgs Φ .nil [] ρ s = .ok ρ s := by rw [evTgs]; rfl
@[simp] theorem evTgs_cons {t : Tg} {r : Tgs} {x : PV} {xs : List PV} : evTgs Φ (.cons t r) (x :: xs) ρ s = bR (evTg Φ t x ρ s) fun ρ' s1 => evTgs Φ r xs ρ' s1 := by rw [evTgs]; rfl
@[simp] theorem evIt_val : evIt Φ (.val a) ρ s = bR (evE Φ a ρ s) fun v s1 => oR ((seqOf s1 v).map fun xs => (xs, watch s1 v)) s1 := by rw [evIt]; rfl
@[simp] theorem evIt_rng1 : evIt Φ (.rng1 b) ρ s = bR (evE Φ b ρ s) fun y s1 => bR (oR (intV y) s1) fun j s1 => if rngOk 0 j then .ok (rngV 0 j, []) s1 else .stuck := by
  rw [evIt]
  refine bR_congr fun y s1 => ?_
  rw [bnd_eq, opt_eq]
  exact bR_congr fun j s2 => ite_app
@[simp] theorem evIt_rng : evIt Φ (.rng a b) ρ s = bR (evE Φ a ρ s) fun x s1 => bR (evE Φ b ρ s1) fun y s2 => bR (oR (intV x) s2) fun i s2 => bR (oR (intV y) s2) fun j s2 => if rngOk i j then .ok (rngV i j, []) s2 else .stuck := by
  rw [evIt]
  refine bR_congr fun x s1 => bR_congr fun y s2 => ?_
  rw [bnd_eq, opt_eq]
  refine bR_congr fun i s3 => ?_
  rw [bnd_eq, opt_eq]
  exact bR_congr fun j s4 => ite_app
@[simp] theorem evIt_zip : evIt Φ (.zip a b) ρ s = bR (evE Φ a ρ s) fun x s1 => bR (evE Φ b ρ s1) fun y s2 => oR ((seqOf s2 x).bind fun xs => (seqOf s2 y).map fun ys => (zipV xs ys, watch s2 x ++ watch s2 y)) s2 := by rw [evIt]; rfl
@[simp] theorem evIt_enum : evIt Φ (.enum a) ρ s = bR (evE Φ a ρ s) fun x s1 => oR ((seqOf s1 x).map fun xs => (enumV xs, watch s1 x)) s1 := by rw [evIt]; rfl
/-- a comprehension's list -/
def lR (mu : Bool) (r : R (List PV)) : R PV := match r with | .ok ys s => mkLst mu ys s | _ => .stuck
@[simp] theorem lR_ok {mu : Bool} {ys : List PV} : lR mu (.ok ys s) = mkLst mu ys s := id rfl
@[simp] theorem evE_lc {mu : Bool} {elt : E} {tg : Tg} {it : It} {ifs : Es} {own : List (Str × Nat)} : evE Φ (.lc mu elt tg it ifs own) ρ s = bR (evIt Φ it ρ s) fun w s1 => lR mu (compGo w.2 (fun x => evTg Φ tg x (wipe ρ (own.map (·.2)))) (evIf Φ ifs) (fun ρ => (evE Φ elt ρ).bnd fun y => M.ret [y]) w.1 s1) := by
  rw [evE]
  exact bR_congr fun w s1 => rfl
@[simp] theorem evE_lc2 {mu : Bool} {elt : E} {tg tg2 : Tg} {it it2 : It} {ifs ifs2 : Es} {own : List (Str × Nat)} {own2 : List Nat} : evE Φ (.lc2 mu elt tg it ifs tg2 it2 ifs2 own own2) ρ s = bR (evIt Φ it ρ s) fun w s1 => lR mu (compGo w.2 (fun x => evTg Φ tg x (wipe ρ (own.map (·.2)))) (evIf Φ ifs)
      (fun ρ => (evIt Φ it2 ρ).bnd fun w2 => fun s => compGo w2.2 (fun x => evTg Φ tg2 x (wipe ρ own2)) (evIf Φ ifs2) (fun ρ => (evE Φ elt ρ).bnd fun y => M.ret [y]) w2.1 s) w.1 s1) := by
  rw [evE]
  exact bR_congr fun w s1 => rfl
end
/-- a call unfolded -/
theorem run_eq {T : Str → Option Fn} {n : Nat} {f : Str} {d : Fn} {vs : List PV} {s : Store} (h : T f = some d) (hl : vs.length = d.ps.length) : run T (n + 1) f vs s = (match exSs (run T n) d.body (start d.N vs) s with
  | .ok (.rt v) s' => fin d.cut s v s'
  | .ok (.nx _) s' => fin d.cut s .non s'
  | .exc x _ s' => .exc x s'
  | _ => .stuck) := by
  simp only [run, h, callB]
  rw [if_pos (decide_eq_true hl)] <;> rfl
def rR (cut : Bool) (s : Store) : SR → R PV
  | .ok (.rt v) s' => fin cut s v s'
  | .ok (.nx _) s' => fin cut s .non s'
  | .exc x _ s' => .exc x s'
  | _ => .stuck
@[simp] theorem rR_rt {cut : Bool} {s s' : Store} {v : PV} : rR cut s (.ok (.rt v) s') = fin cut s v s' := id rfl
@[simp] theorem rR_nx {cut : Bool} {s s' : Store} {ρ : Env} : rR cut s (.ok (.nx ρ) s') = fin cut s .non s' := id rfl
@[simp] theorem rR_exc {cut : Bool} {s s' : Store} {ρ : Env} {x : PV} : rR cut s (.exc x ρ s') = .exc x s' := id rfl
/-- a call unfolded, the def in its parts -/
theorem run_mk {T : Str → Option Fn} {n : Nat} {f : Str} {ps N : List Str} {body : Ss} {cut : Bool} {vs : List PV} {s : Store} (h : T f = some ⟨ps, N, body, cut⟩) (hl : vs.length = ps.length) : run T (n + 1) f vs s = rR cut s (exSs (run T n) body (start N vs) s) := by
  rw [run_eq h hl]
  show _ = rR cut s _
  generalize exSs (run T n) _ _ s = q
  cases q with
  | ok f s => cases f <;> rfl
  | exc _ _ _ => rfl
  | stuck => rfl
end Mini

set_option Elab.async false
set_option linter.all false
set_option maxRecDepth 100000
/-! MiniL: loops and comprehensions, for plain proofs. -/
namespace Mini
open PySem (Str)
section
variable {X : Type} {enc : X → PV} {wt : List (Nat × List PV)} {bind : PV → Env → M Env} {body : MS}
@[simp] theorem stays_nil {s : Store} : stays [] s = true := rfl
/-- a walk that goes through: an invariant over what is done and what is left -/
theorem forGo_inv (I : List X → Env → Store → Prop) (hst : ∀ r ρ s, I r ρ s → stays wt s = true)
    (step : ∀ x r ρ s, I (x :: r) ρ s → ∃ ρ1 s1, bind (enc x) ρ s = .ok ρ1 s1 ∧ ∃ ρ2 s2, (body ρ1 s1 = .ok (.nx ρ2) s2 ∨ body ρ1 s1 = .ok (.ct ρ2) s2) ∧ I r ρ2 s2) :
    ∀ (xs : List X) (ρ : Env) (s : Store), I xs ρ s → ∃ ρ' s', forGo wt bind body (xs.map enc) ρ s = .ok (.nx ρ') s' ∧ I [] ρ' s'
  | [], ρ, s, h => ⟨ρ, s, by simp only [List.map_nil, forGo]; rw [if_pos (hst _ _ _ h)], h⟩
  | x :: r, ρ, s, h => by
    obtain ⟨ρ1, s1, e1, ρ2, s2, e2, h2⟩ := step x r ρ s h
    obtain ⟨ρ', s', e3, h3⟩ := forGo_inv I hst step r ρ2 s2 h2
    refine ⟨ρ', s', ?_, h3⟩
    simp only [List.map_cons, forGo]
    rw [if_pos (hst _ _ _ h)]
    simp only [e1]
    rcases e2 with e2 | e2
    · simp only [e2]; exact e3
    · simp only [e2]; exact e3
/-- a walk that may return -/
theorem forGo_find (I : List X → Env → Store → Prop) (P : X → Option PV) (B : PV → Store → Prop) (hst : ∀ r ρ s, I r ρ s → stays wt s = true)
    (step : ∀ x r ρ s, I (x :: r) ρ s → ∃ ρ1 s1, bind (enc x) ρ s = .ok ρ1 s1 ∧ (match P x with
      | some v => ∃ s2, body ρ1 s1 = .ok (.rt v) s2 ∧ B v s2
      | none => ∃ ρ2 s2, (body ρ1 s1 = .ok (.nx ρ2) s2 ∨ body ρ1 s1 = .ok (.ct ρ2) s2) ∧ I r ρ2 s2)) :
    ∀ (xs : List X) (ρ : Env) (s : Store), I xs ρ s → (match xs.findSome? P with
      | some v => ∃ s', forGo wt bind body (xs.map enc) ρ s = .ok (.rt v) s' ∧ B v s'
      | none => ∃ ρ' s', forGo wt bind body (xs.map enc) ρ s = .ok (.nx ρ') s' ∧ I [] ρ' s')
  | [], ρ, s, h => ⟨ρ, s, by simp only [List.map_nil, forGo]; rw [if_pos (hst _ _ _ h)], h⟩
  | x :: r, ρ, s, h => by
    obtain ⟨ρ1, s1, e1, hb⟩ := step x r ρ s h
    rw [List.findSome?_cons]
    cases hp : P x with
    | some v =>
      rw [hp] at hb
      obtain ⟨s2, e2, h2⟩ := hb
      refine ⟨s2, ?_, h2⟩
      simp only [List.map_cons, forGo]
      rw [if_pos (hst _ _ _ h)]
      simp only [e1, e2]
    | none =>
      rw [hp] at hb
      obtain ⟨ρ2, s2, e2, h2⟩ := hb
      have ih := forGo_find I P B hst step r ρ2 s2 h2
      have eq : forGo wt bind body ((x :: r).map enc) ρ s = forGo wt bind body (r.map enc) ρ2 s2 := by
        simp only [List.map_cons, forGo]
        rw [if_pos (hst _ _ _ h)]
        simp only [e1]
        rcases e2 with e2 | e2
        · simp only [e2]
        · simp only [e2]
      rw [eq]
      exact ih
end
section
variable {X Y : Type} {enc : X → PV} {wt : List (Nat × List PV)} {bind : PV → M Env} {test : Env → M Bool} {el : Env → M (List PV)}
/-- a comprehension that leaves the store alone -/
theorem compGo_pure {s : Store} (f : X → List PV) (hst : stays wt s = true) : ∀ (xs : List X), (∀ x ∈ xs, ∃ ρ1, bind (enc x) s = .ok ρ1 s ∧ ((test ρ1 s = .ok true s ∧ el ρ1 s = .ok (f x) s) ∨ (test ρ1 s = .ok false s ∧ f x = []))) →
    compGo wt bind test el (xs.map enc) s = .ok (xs.flatMap f) s
  | [], _ => by simp only [List.map_nil, compGo]; rw [if_pos hst]; rfl
  | x :: r, h => by
    obtain ⟨ρ1, e1, h1⟩ := h x (List.mem_cons_self ..)
    have ih := compGo_pure f hst r fun y hy => h y (List.mem_cons_of_mem _ hy)
    simp only [List.map_cons, compGo]
    rw [if_pos hst]
    simp only [e1]
    rcases h1 with ⟨e2, e3⟩ | ⟨e2, e3⟩
    · simp only [e2, e3, ih, List.flatMap_cons]
    · simp only [e2, ih, List.flatMap_cons, e3, List.nil_append]
theorem compGo_map {s : Store} (f : X → PV) (hst : stays wt s = true) (xs : List X) (h : ∀ x ∈ xs, ∃ ρ1, bind (enc x) s = .ok ρ1 s ∧ test ρ1 s = .ok true s ∧ el ρ1 s = .ok [f x] s) : compGo wt bind test el (xs.map enc) s = .ok (xs.map f) s := by
  have z := compGo_pure (enc := enc) (bind := bind) (test := test) (el := el) (fun x => [f x]) hst xs fun x hx => let ⟨ρ1, a, b, c⟩ := h x hx; ⟨ρ1, a, .inl ⟨b, c⟩⟩
  rw [z]
  congr 1
  clear z h
  induction xs with
  | nil => rfl
  | cons a r ih => rw [List.flatMap_cons, ih]; rfl
theorem compGo_filter {s : Store} (p : X → Bool) (f : X → PV) (hst : stays wt s = true) (xs : List X) (h : ∀ x ∈ xs, ∃ ρ1, bind (enc x) s = .ok ρ1 s ∧ test ρ1 s = .ok (p x) s ∧ (p x = true → el ρ1 s = .ok [f x] s)) : compGo wt bind test el (xs.map enc) s = .ok ((xs.filter p).map f) s := by
  have z := compGo_pure (enc := enc) (bind := bind) (test := test) (el := el) (fun x => if p x then [f x] else []) hst xs fun x hx => by
    obtain ⟨ρ1, a, b, c⟩ := h x hx
    refine ⟨ρ1, a, ?_⟩
    cases hp : p x with
    | true => rw [hp] at b; exact .inl ⟨b, by rw [c hp]; rfl⟩
    | false => rw [hp] at b; exact .inr ⟨b, rfl⟩
  rw [z]
  congr 1
  clear z h
  induction xs with
  | nil => rfl
  | cons a r ih =>
    rw [List.flatMap_cons, List.filter_cons, ih]
    cases p a <;> rfl
/-- a comprehension that changes the store: an invariant -/
theorem compGo_inv (I : List X → Store → Prop) (O : PV → Prop) (hst : ∀ r s, I r s → stays wt s = true)
    (step : ∀ x r s, I (x :: r) s → ∃ ρ1 s1, bind (enc x) s = .ok ρ1 s1 ∧ ∃ s2, (test ρ1 s1 = .ok false s2 ∧ I r s2) ∨ (test ρ1 s1 = .ok true s2 ∧ ∃ y s3, el ρ1 s2 = .ok [y] s3 ∧ O y ∧ I r s3)) :
    ∀ (xs : List X) (s : Store), I xs s → ∃ ys s', compGo wt bind test el (xs.map enc) s = .ok ys s' ∧ (∀ y ∈ ys, O y) ∧ ys.length ≤ xs.length ∧ I [] s'
  | [], s, h => ⟨[], s, by simp only [List.map_nil, compGo]; rw [if_pos (hst _ _ h)], ⟨(fun y hy => by cases hy), Nat.le_refl _, h⟩⟩
  | x :: r, s, h => by
    obtain ⟨ρ1, s1, e1, s2, hb⟩ := step x r s h
    rcases hb with ⟨e2, h2⟩ | ⟨e2, y, s3, e3, ho, h3⟩
    · obtain ⟨ys, s', e, a, l, i⟩ := compGo_inv I O hst step r s2 h2
      refine ⟨ys, s', ?_, a, Nat.le_succ_of_le l, i⟩
      simp only [List.map_cons, compGo]
      rw [if_pos (hst _ _ h)]
      simp only [e1, e2, e]
    · obtain ⟨ys, s', e, a, l, i⟩ := compGo_inv I O hst step r s3 h3
      refine ⟨y :: ys, s', ?_, fun z hz => ?_, Nat.succ_le_succ l, i⟩
      · simp only [List.map_cons, compGo]
        rw [if_pos (hst _ _ h)]
        simp only [e1, e2, e3, e]
        rfl
      · rcases List.mem_cons.mp hz with q | q
        · rw [q]; exact ho
        · exact a z q
end
/-- while: with what is left as fuel -/
theorem whlGo_inv {test : Env → M Bool} {body : MS} (I : Nat → Env → Store → Prop) (step0 : ∀ ρ s, I 0 ρ s → ∃ s1, test ρ s = .ok false s1 ∧ I 0 ρ s1)
    (step : ∀ k ρ s, I (k + 1) ρ s → ∃ s1, test ρ s = .ok true s1 ∧ ∃ ρ2 s2, body ρ s1 = .ok (.nx ρ2) s2 ∧ I k ρ2 s2) :
    ∀ (k n : Nat) (ρ : Env) (s : Store), k < n → I k ρ s → ∃ ρ' s', whlGo test body n ρ s = .ok (.nx ρ') s' ∧ I 0 ρ' s'
  | 0, n + 1, ρ, s, _, h => by
    obtain ⟨s1, e, h1⟩ := step0 ρ s h
    exact ⟨ρ, s1, by simp only [whlGo, e], h1⟩
  | k + 1, n + 1, ρ, s, hk, h => by
    obtain ⟨s1, e, ρ2, s2, e2, h2⟩ := step k ρ s h
    obtain ⟨ρ', s', e3, h3⟩ := whlGo_inv I step0 step k n ρ2 s2 (by omega) h2
    exact ⟨ρ', s', by simp only [whlGo, e, e2, e3], h3⟩
  | _, 0, _, _, h, _ => by omega
end Mini

set_option Elab.async false
set_option linter.all false
set_option maxRecDepth 100000
/-! MiniQ: values, for plain proofs. -/
namespace Mini
open PySem (Str PyData sizeLine)
def tupI (l : List Int) : PV := .tup (l.map .int)
def lstI (l : List Int) : PV := .lst (l.map .int)
section
variable {s : Store}
@[simp] theorem seqOf_tup {xs : List PV} : seqOf s (.tup xs) = some xs := rfl
@[simp] theorem seqOf_lst {xs : List PV} : seqOf s (.lst xs) = some xs := rfl
@[simp] theorem seqOf_scr {xs : List PV} : seqOf s (.scr xs) = some xs := rfl
@[simp] theorem lstOf_lst {xs : List PV} : lstOf s (.lst xs) = some xs := rfl
@[simp] theorem lstOf_tup {xs : List PV} : lstOf s (.tup xs) = none := rfl
@[simp] theorem watch_tup {xs : List PV} : watch s (.tup xs) = [] := rfl
@[simp] theorem watch_lst {xs : List PV} : watch s (.lst xs) = [] := rfl
@[simp] theorem watch_scr {xs : List PV} : watch s (.scr xs) = [] := rfl
@[simp] theorem dicOf_tup {xs : List PV} : dicOf s (.tup xs) = none := rfl
@[simp] theorem dicOf_lst {xs : List PV} : dicOf s (.lst xs) = none := rfl
@[simp] theorem dicOf_scr {xs : List PV} : dicOf s (.scr xs) = none := rfl
@[simp] theorem dicOf_dic {t : Bool} {ks vs : List PV} : dicOf s (.dic t ks vs) = some (t, ks, vs) := rfl
@[simp] theorem fin_false {v : PV} {s' : Store} : fin false s v s' = .ok v s' := rfl
@[simp] theorem alloc_eq {o : SO} : alloc o s = .ok (.ref s.length) (s ++ [o]) := rfl
theorem szOk_of {n : Nat} (h : n ≤ 16777216) : szOk n = true := by
  unfold szOk
  rw [PySem.sizeLine_eq]
  exact decide_eq_true h
theorem mkLst_f {vs : List PV} (h : vs.length ≤ 16777216) : mkLst false vs s = .ok (.lst vs) s := by
  unfold mkLst
  rw [if_pos (szOk_of h)]
  rfl
theorem mkLst_t {vs : List PV} (h : vs.length ≤ 16777216) : mkLst true vs s = .ok (.ref s.length) (s ++ [.lst vs]) := by
  unfold mkLst
  rw [if_pos (szOk_of h)]
  rfl
@[simp] theorem mkLst_nil : mkLst false [] s = .ok (.lst []) s := mkLst_f (Nat.zero_le _)
@[simp] theorem truth_bl {b : Bool} : truth s (.bl b) = some b := rfl
@[simp] theorem truth_non : truth s .non = some false := rfl
@[simp] theorem truth_int {i : Int} : truth s (.int i) = some (i != 0) := rfl
@[simp] theorem truth_tup {xs : List PV} : truth s (.tup xs) = some (!xs.isEmpty) := rfl
@[simp] theorem truth_lst {xs : List PV} : truth s (.lst xs) = some (!xs.isEmpty) := rfl
@[simp] theorem toDs_ints : ∀ l : List Int, toDs (l.map .int) = some (l.map .int)
  | [] => rfl
  | x :: r => by simp only [List.map_cons, toDs, toD, toDs_ints r]
theorem okD_int (i : Int) : okD (.int i) = true := rfl
theorem okD_bool (i : Bool) : okD (.bool i) = true := rfl
theorem okD_none : okD .none = true := rfl
theorem eqvAll_ints : ∀ l m : List Int, PyData.eqvAll (l.map .int) (m.map .int) = decide (l = m)
  | [], [] => rfl
  | [], _ :: _ => rfl
  | _ :: _, [] => rfl
  | x :: r, y :: q => by
    simp only [List.map_cons, PyData.eqvAll, PyData.eqv, eqvAll_ints r q, List.cons.injEq]
    by_cases h : x = y <;> simp [h]
@[simp] theorem eq_int {i j : Int} : cop .eq (.int i) (.int j) s = some (decide (i = j)) := by
  show (if okD (.int i) && okD (.int j) then some (PyData.eqv (.int i) (.int j)) else none) = _
  rw [okD_int, okD_int]
  simp only [Bool.and_self, if_true, PyData.eqv]
  by_cases h : i = j <;> simp [h]
@[simp] theorem ne_int {i j : Int} : cop .ne (.int i) (.int j) s = some (decide (i ≠ j)) := by
  have z : eqD s (.int i) (.int j) = some (decide (i = j)) := eq_int (s := s)
  show (eqD s (.int i) (.int j)).map not = _
  rw [z]
  by_cases h : i = j <;> simp [h]
@[simp] theorem lt_int {i j : Int} : cop .lt (.int i) (.int j) s = some (decide (i < j)) := rfl
@[simp] theorem le_int {i j : Int} : cop .le (.int i) (.int j) s = some (decide (i ≤ j)) := rfl
@[simp] theorem gt_int {i j : Int} : cop .gt (.int i) (.int j) s = some (decide (j < i)) := rfl
@[simp] theorem ge_int {i j : Int} : cop .ge (.int i) (.int j) s = some (decide (j ≤ i)) := rfl
@[simp] theorem add_int {i j : Int} : bop .add (.int i) (.int j) s = some (.int (i + j)) := rfl
@[simp] theorem sub_int {i j : Int} : bop .sub (.int i) (.int j) s = some (.int (i - j)) := rfl
@[simp] theorem neg_int {i : Int} : negV (.int i) = some (.int (-i)) := rfl
@[simp] theorem intV_int {i : Int} : intV (.int i) = some i := rfl
theorem mul_int {i j : Int} (h : small64 i || small64 j) : bop .mul (.int i) (.int j) s = some (.int (i * j)) := by
  show (if small64 i || small64 j then some (PV.int (i * j)) else none) = _
  rw [if_pos h]
theorem mod_int {i j : Int} (h : 0 < j) : bop .mod (.int i) (.int j) s = some (.int (i % j)) := by
  show (if decide (0 < j) then some (PV.int (i % j)) else none) = _
  rw [if_pos (decide_eq_true h)]
theorem fdiv_int {i j : Int} (h : 0 < j) (h2 : j < 1073741824) : bop .fdiv (.int i) (.int j) s = some (.int (i / j)) := by
  show (if decide (0 < j ∧ j < 1073741824) then some (PV.int (i / j)) else none) = _
  rw [if_pos (decide_eq_true ⟨h, h2⟩)]
theorem canLay_ints : ∀ l : List Int, PyData.canLayAll0 (l.map .int) = true
  | [] => rfl
  | x :: r => by simp only [List.map_cons, PyData.canLayAll0, canLay_ints r]; rfl
theorem depth_ints : ∀ l : List Int, PyData.depthAll (l.map .int) = 0
  | [] => rfl
  | x :: r => by simp only [List.map_cons, PyData.depthAll, depth_ints r]; rfl
@[simp] theorem okD_lints (l : List Int) : okD (.list (l.map .int)) = true := by
  show (PyData.canLay0 (.list (l.map .int)) && decide (PyData.depth (.list (l.map .int)) ≤ 64)) = true
  simp only [PyData.canLay0, PyData.depth, canLay_ints, depth_ints]
  rfl
@[simp] theorem okD_tints (l : List Int) : okD (.tuple (l.map .int)) = true := by
  show (PyData.canLay0 (.tuple (l.map .int)) && decide (PyData.depth (.tuple (l.map .int)) ≤ 64)) = true
  simp only [PyData.canLay0, PyData.depth, canLay_ints, depth_ints]
  rfl
@[simp] theorem len_lst {xs : List PV} : biF .len [.lst xs] s = some (.int xs.length) := rfl
@[simp] theorem len_tup {xs : List PV} : biF .len [.tup xs] s = some (.int xs.length) := rfl
@[simp] theorem len_scr {xs : List PV} : biF .len [.scr xs] s = some (.int xs.length) := rfl
@[simp] theorem int_int {i : Int} : biF .int [.int i] s = some (.int i) := rfl
@[simp] theorem tuple_lst {xs : List PV} : biF .tuple [.lst xs] s = some (.tup xs) := rfl
@[simp] theorem tuple_tup {xs : List PV} : biF .tuple [.tup xs] s = some (.tup xs) := rfl
@[simp] theorem list_lst {xs : List PV} : biF .list [.lst xs] s = some (.lst xs) := rfl
@[simp] theorem list_tup {xs : List PV} : biF .list [.tup xs] s = some (.lst xs) := rfl
@[simp] theorem abs_int {i : Int} : biF .abs [.int i] s = some (.int (if i < 0 then -i else i)) := rfl
theorem atI_in {α : Type} {xs : List α} {i : Int} (h0 : 0 ≤ i) (h1 : i < xs.length) : L2.atI xs i = some (xs[i.toNat]'(by omega)) := by
  unfold L2.atI L2.ixN
  rw [if_pos h0, if_pos h1]
  exact List.getElem?_eq_getElem _
theorem atI_neg1 {α : Type} {xs : List α} {x : α} : L2.atI (xs ++ [x]) (-1) = some x := by
  unfold L2.atI L2.ixN
  rw [if_neg (by decide), if_pos (by rw [List.length_append]; simp; omega)]
  have e : (-1 + ((xs ++ [x]).length : Int)).toNat = xs.length := by rw [List.length_append]; simp; omega
  show (xs ++ [x])[(-1 + ((xs ++ [x]).length : Int)).toNat]? = some x
  rw [e]
  simp
theorem sub_lst {xs : List PV} {i : Int} : subG (.lst xs) (.int i) s = L2.atI xs i := rfl
theorem sub_tup {xs : List PV} {i : Int} : subG (.tup xs) (.int i) s = L2.atI xs i := rfl
end
end Mini

set_option Elab.async false
set_option linter.all false
set_option maxRecDepth 100000
/-! MiniK: what a def gives back where its store is cut, for plain proofs. -/
namespace Mini
open PySem (Str PyData sizeLine)
section
variable {s s' : Store} {n0 k : Nat}
theorem mapM_id {α : Type} {f : α → Option α} : ∀ {l : List α}, (∀ x ∈ l, f x = some x) → l.mapM f = some l
  | [], _ => rfl
  | x :: r, h => by
    rw [List.mapM_cons, h x (List.mem_cons_self ..), mapM_id fun y hy => h y (List.mem_cons_of_mem _ hy)]
    rfl
@[simp] theorem lock_int {i : Int} : lock s n0 (k + 1) (.int i) = some (.int i) := rfl
@[simp] theorem lock_non : lock s n0 (k + 1) .non = some .non := rfl
theorem lock_tup {xs : List PV} (h : ∀ x ∈ xs, lock s n0 k x = some x) : lock s n0 (k + 1) (.tup xs) = some (.tup xs) := by
  show (xs.mapM (lock s n0 k)).map PV.tup = _
  rw [mapM_id h]; rfl
theorem lock_lst {xs : List PV} (h : ∀ x ∈ xs, lock s n0 k x = some x) : lock s n0 (k + 1) (.lst xs) = some (.lst xs) := by
  show (xs.mapM (lock s n0 k)).map PV.lst = _
  rw [mapM_id h]; rfl
theorem lock_tupI {l : List Int} : lock s n0 (k + 2) (tupI l) = some (tupI l) := lock_tup fun x hx => by
  obtain ⟨i, _, rfl⟩ := List.mem_map.mp hx
  rfl
theorem lock_ref {n : Nat} {xs : List PV} (hn : ¬ n < n0) (hs : s[n]? = some (.lst xs)) (h : ∀ x ∈ xs, lock s n0 k x = some x) : lock s n0 (k + 1) (.ref n) = some (.lst xs) := by
  show (if n < n0 then some (PV.ref n) else match s[n]? with
    | some (.lst xs) => (xs.mapM (lock s n0 k)).map .lst
    | some (.dic t ks vs) => if unders n0 ks then (vs.mapM (lock s n0 k)).map (.dic t ks) else none
    | _ => none) = _
  rw [if_neg hn, hs]
  show (xs.mapM (lock s n0 k)).map PV.lst = _
  rw [mapM_id h]; rfl
theorem peqO_refl : ∀ o : SO, peqO o o = true
  | .lst a => peqs_refl a
  | .dic t a c => by
    show (t == t && (peqs a a && peqs c c)) = true
    rw [peqs_refl a, peqs_refl c]; simp
  | .ins a n c => by
    show (decide (a = a) && (decide (n = n) && peqs c c)) = true
    rw [peqs_refl c]; simp
theorem cutOk_of (hl : s.length ≤ s'.length) (h : ∀ (i : Nat) o o', i < s.length → s[i]? = some o → s'[i]? = some o' → o = o' ∨ underO s.length o' = true) : cutOk s s' = true := by
  unfold cutOk
  rw [Bool.and_eq_true_iff]
  refine ⟨decide_eq_true hl, List.all_eq_true.mpr fun i hi => ?_⟩
  have hi := List.mem_range.mp hi
  rw [List.getElem?_eq_getElem hi, List.getElem?_eq_getElem (Nat.lt_of_lt_of_le hi hl)]
  rcases h i _ _ hi (List.getElem?_eq_getElem hi) (List.getElem?_eq_getElem (Nat.lt_of_lt_of_le hi hl)) with e | e
  · show (peqO s[i] _ || _) = true
    rw [← e, peqO_refl]; rfl
  · show (_ || underO s.length _) = true
    rw [e, Bool.or_true]
/-- what was ahead stands, what came behind goes -/
theorem fin_pure {ex : Store} {v v' : PV} (h : lock (s ++ ex) s.length 50 v = some v') : fin true s v (s ++ ex) = .ok v' s := by
  unfold fin
  rw [if_pos rfl, h]
  show (if cutOk s (s ++ ex) then R.ok v' ((s ++ ex).take s.length) else .stuck) = _
  rw [if_pos (cutOk_of (by rw [List.length_append]; omega) fun i o o' hi e1 e2 => .inl ?_), List.take_left]
  rw [List.getElem?_append_left hi, e1] at e2
  exact Option.some.inj e2
/-- plain data, not deep -/
def Dat (x : PV) : Prop := ∃ d, toD x = some d ∧ PyData.canLay0 d = true ∧ d.depth ≤ 50
theorem Dat.int (i : Int) : Dat (.int i) := ⟨.int i, rfl, rfl, Nat.zero_le _⟩
theorem Dat.tupI (l : List Int) : Dat (tupI l) := by
  refine ⟨.tuple (l.map .int), ?_, ?_, ?_⟩
  · show (toDs (l.map .int)).map PyData.tuple = _
    rw [toDs_ints]; rfl
  · show PyData.canLayAll0 (l.map .int) = true
    exact canLay_ints l
  · show PyData.depthAll (l.map .int) + 1 ≤ 50
    rw [depth_ints]; decide
theorem dat_list : ∀ {xs : List PV}, (∀ x ∈ xs, Dat x) → ∃ ds, toDs xs = some ds ∧ ds.length = xs.length ∧ PyData.canLayAll0 ds = true ∧ PyData.depthAll ds ≤ 50
  | [], _ => ⟨[], rfl, rfl, rfl, Nat.zero_le _⟩
  | x :: r, h => by
    obtain ⟨d, e1, c1, d1⟩ := h x (List.mem_cons_self ..)
    obtain ⟨ds, e2, l2, c2, d2⟩ := dat_list fun y hy => h y (List.mem_cons_of_mem _ hy)
    refine ⟨d :: ds, ?_, ?_, ?_, ?_⟩
    · simp only [toDs, e1, e2]
    · rw [List.length_cons, List.length_cons, l2]
    · simp only [PyData.canLayAll0, c1, c2, Bool.and_self]
    · simp only [PyData.depthAll]
      exact Nat.max_le.mpr ⟨d1, d2⟩
theorem okD_list {ds : List PyData} (c : PyData.canLayAll0 ds = true) (d : PyData.depthAll ds ≤ 50) : okD (.list ds) = true := by
  show (PyData.canLay0 (.list ds) && decide (PyData.depth (.list ds) ≤ 64)) = true
  simp only [PyData.canLay0, PyData.depth, c, Bool.true_and]
  exact decide_eq_true (by omega)
/-- a list of the store asked whether it is empty -/
theorem ne_nil_ref {n : Nat} {xs : List PV} (h : s[n]? = some (.lst xs)) (D : ∀ x ∈ xs, Dat x) : cop .ne (.ref n) (.lst []) s = some (!xs.isEmpty) := by
  obtain ⟨ds, e, l, c, d⟩ := dat_list D
  have z : toDS s (.ref n) = some (.list ds) := by
    show (match s[n]? with | some (.lst xs) => (toDs xs).map PyData.list | _ => none) = _
    rw [h]
    show (toDs xs).map PyData.list = _
    rw [e]; rfl
  have z2 : toDS s (.lst []) = some (.list []) := rfl
  show (eqD s (.ref n) (.lst [])).map not = _
  unfold eqD
  rw [z, z2]
  simp only
  rw [okD_list c d, show okD (.list []) = true from okD_lints []]
  cases ds with
  | nil => cases xs with
    | nil => rfl
    | cons _ _ => simp at l
  | cons _ _ => cases xs with
    | nil => simp at l
    | cons _ _ => rfl
theorem pop_ref {n : Nat} {xs : List PV} {i : Int} (h : s[n]? = some (.lst xs)) (h0 : 0 ≤ i) (h1 : i < xs.length) : M.liftS (meth .popat (.ref n) [.int i]) s = .ok (xs[i.toNat]'(by omega)) (s.set n (.lst (xs.eraseIdx i.toNat))) := by
  have z : L2.ixN xs.length i = some i.toNat := by
    unfold L2.ixN
    rw [if_pos h0, if_pos h1]
  have z2 : xs[i.toNat]? = some (xs[i.toNat]'(by omega)) := List.getElem?_eq_getElem _
  simp [M.liftS, meth, methL, h, z, z2]
theorem app_ref {n : Nat} {xs : List PV} {y : PV} (h : s[n]? = some (.lst xs)) (hl : xs.length < 16777216) : M.liftS (meth .append (.ref n) [y]) s = .ok .non (s.set n (.lst (xs ++ [y]))) := by
  have z : xs.length < sizeLine := by rw [PySem.sizeLine_eq]; exact hl
  simp [M.liftS, meth, methL, h, z]
theorem lstOf_ref {n : Nat} {xs : List PV} (h : s[n]? = some (.lst xs)) : lstOf s (.ref n) = some xs := by
  show (match s[n]? with | some (.lst xs) => some xs | _ => none) = _
  rw [h]
theorem seqOf_ref {n : Nat} {xs : List PV} (h : s[n]? = some (.lst xs)) : seqOf s (.ref n) = some xs := by
  show (match s[n]? with | some (.lst xs) => some xs | _ => none) = _
  rw [h]
theorem len_ref {n : Nat} {xs : List PV} (h : s[n]? = some (.lst xs)) : biF .len [.ref n] s = some (.int xs.length) := by
  show (match dicOf s (.ref n) with | some (_, ks, _) => some (PV.int ks.length) | none => (seqOf s (.ref n)).map fun (xs : List PV) => PV.int xs.length) = _
  have : dicOf s (.ref n) = none := by
    show (match s[n]? with | some (.dic t ks vs) => some (t, ks, vs) | _ => none) = _
    rw [h]
  rw [this, seqOf_ref h]
  rfl
end
end Mini

set_option Elab.async false
set_option linter.all false
/-! MiniN: tuples of elements, sorting, signs: plain facts. -/
namespace Mini
/-! ### ascending tuples -/
def lotFrom (lot : List Int) : Int := match lot.getLast? with | some x => x + 1 | none => 0
def lotNext (size : Int) (lot : List Int) : List (List Int) := (List.range (size - lotFrom lot).toNat).map fun k => lot ++ [lotFrom lot + (k : Nat)]
def lotsN (size : Int) : Nat → List (List Int)
  | 0 => [[]]
  | n + 1 => (lotsN size n).flatMap (lotNext size)
def Asc (l : List Int) : Prop := l.Pairwise (· < ·)
theorem lotFrom_nil : lotFrom [] = 0 := rfl
theorem lotFrom_snoc (l : List Int) (x : Int) : lotFrom (l ++ [x]) = x + 1 := by
  unfold lotFrom
  rw [List.getLast?_append]; rfl
theorem asc_snoc {l : List Int} {x : Int} : Asc (l ++ [x]) ↔ Asc l ∧ ∀ y ∈ l, y < x := by
  unfold Asc
  rw [List.pairwise_append]
  constructor
  · rintro ⟨a, _, b⟩
    exact ⟨a, fun y hy => b y hy x (List.mem_singleton_self x)⟩
  · rintro ⟨a, b⟩
    exact ⟨a, List.pairwise_singleton _ _, fun y hy z hz => by rw [List.mem_singleton.mp hz]; exact b y hy⟩
theorem asc_lt_from {l : List Int} (h : Asc l) : ∀ y ∈ l, y < lotFrom l := by
  rcases List.eq_nil_or_concat l with e | ⟨q, x, e⟩
  · subst e; intro y hy; cases hy
  · rw [List.concat_eq_append] at e
    subst e
    rw [lotFrom_snoc]
    intro y hy
    rcases List.mem_append.mp hy with h1 | h1
    · have := (asc_snoc.mp h).2 y h1; omega
    · rw [List.mem_singleton.mp h1]; omega
theorem from_nonneg {l : List Int} (h : ∀ y ∈ l, 0 ≤ y) : 0 ≤ lotFrom l := by
  rcases List.eq_nil_or_concat l with e | ⟨q, x, e⟩
  · subst e; exact Int.le_refl _
  · rw [List.concat_eq_append] at e
    subst e
    rw [lotFrom_snoc]
    have := h x (List.mem_append_right _ (List.mem_singleton_self x)); omega
theorem from_le {l : List Int} {x : Int} (h : ∀ y ∈ l, y < x) (h0 : 0 ≤ x) : lotFrom l ≤ x := by
  rcases List.eq_nil_or_concat l with e | ⟨q, y, e⟩
  · subst e; exact h0
  · rw [List.concat_eq_append] at e
    subst e
    rw [lotFrom_snoc]
    have := h y (List.mem_append_right _ (List.mem_singleton_self y)); omega
theorem mem_lots {size : Int} : ∀ {n : Nat} {l : List Int}, l ∈ lotsN size n ↔ l.length = n ∧ Asc l ∧ ∀ x ∈ l, 0 ≤ x ∧ x < size
  | 0, l => by
    show l ∈ [[]] ↔ _
    rw [List.mem_singleton]
    constructor
    · intro e; subst e; exact ⟨rfl, List.Pairwise.nil, fun x hx => by cases hx⟩
    · intro h; exact List.eq_nil_of_length_eq_zero h.1
  | n + 1, l => by
    show l ∈ (lotsN size n).flatMap (lotNext size) ↔ _
    rw [List.mem_flatMap]
    constructor
    · rintro ⟨lot, h1, h2⟩
      obtain ⟨a, b, c⟩ := mem_lots.mp h1
      unfold lotNext at h2
      obtain ⟨k, hk, e⟩ := List.mem_map.mp h2
      have hk := List.mem_range.mp hk
      subst e
      have h0 := from_nonneg fun y hy => (c y hy).1
      refine ⟨by rw [List.length_append, a]; rfl, asc_snoc.mpr ⟨b, fun y hy => ?_⟩, fun x hx => ?_⟩
      · have := asc_lt_from b y hy; omega
      · rcases List.mem_append.mp hx with h | h
        · exact c x h
        · rw [List.mem_singleton.mp h]; omega
    · rintro ⟨a, b, c⟩
      rcases List.eq_nil_or_concat l with e | ⟨q, x, e⟩
      · subst e; cases a
      · rw [List.concat_eq_append] at e
        subst e
        obtain ⟨b1, b2⟩ := asc_snoc.mp b
        have hx := c x (List.mem_append_right _ (List.mem_singleton_self x))
        refine ⟨q, mem_lots.mpr ⟨by rw [List.length_append] at a; simpa using a, b1, fun y hy => c y (List.mem_append_left _ hy)⟩, ?_⟩
        unfold lotNext
        have hl := from_le b2 hx.1
        refine List.mem_map.mpr ⟨(x - lotFrom q).toNat, List.mem_range.mpr (by omega), ?_⟩
        have : lotFrom q + ((x - lotFrom q).toNat : Int) = x := by omega
        rw [this]
theorem snoc_inj {a b : List Int} {x y : Int} (h : a ++ [x] = b ++ [y]) : a = b ∧ x = y := by
  have := List.append_inj' h rfl
  exact ⟨this.1, by simpa using this.2⟩
theorem lots_nodup {size : Int} : ∀ n : Nat, (lotsN size n).Nodup
  | 0 => List.pairwise_singleton _ _
  | n + 1 => by
    show ((lotsN size n).flatMap (lotNext size)).Pairwise (· ≠ ·)
    rw [List.pairwise_flatMap]
    refine ⟨fun a _ => ?_, (lots_nodup n).imp fun {a b} hab x hx y hy e => ?_⟩
    · unfold lotNext
      rw [List.pairwise_map]
      refine (List.nodup_range (n := _)).imp fun {i j} hij e => hij ?_
      have := (snoc_inj e).2
      omega
    · unfold lotNext at hx hy
      obtain ⟨i, _, e1⟩ := List.mem_map.mp hx
      obtain ⟨j, _, e2⟩ := List.mem_map.mp hy
      subst e1 e2
      exact hab (snoc_inj e).1
theorem asc_nodup {l : List Int} (h : Asc l) : l.Nodup := h.imp fun {a b} h e => by omega
/-! ### sorting -/
theorem pinsI_perm (x : Int) : ∀ l : List Int, (insI x l).Perm (x :: l)
  | [] => List.Perm.refl _
  | y :: r => by
    unfold insI
    split
    · exact List.Perm.refl _
    · exact ((pinsI_perm x r).cons y).trans (List.Perm.swap x y r)
theorem psortI_perm : ∀ l : List Int, (sortI l).Perm l
  | [] => List.Perm.refl _
  | x :: r => (pinsI_perm x _).trans ((psortI_perm r).cons x)
theorem pinsI_sorted (x : Int) : ∀ l : List Int, l.Pairwise (· ≤ ·) → (insI x l).Pairwise (· ≤ ·)
  | [], _ => List.pairwise_singleton _ _
  | y :: r, h => by
    unfold insI
    have h' := List.pairwise_cons.mp h
    split
    · rename_i hxy
      refine List.pairwise_cons.mpr ⟨fun z hz => ?_, h⟩
      rcases List.mem_cons.mp hz with e | e
      · rw [e]; exact hxy
      · have := h'.1 z e; omega
    · refine List.pairwise_cons.mpr ⟨fun z hz => ?_, pinsI_sorted x r h'.2⟩
      rcases List.mem_cons.mp ((pinsI_perm x r).mem_iff.mp hz) with e | e
      · rw [e]; omega
      · exact h'.1 z e
theorem psortI_sorted : ∀ l : List Int, (sortI l).Pairwise (· ≤ ·)
  | [] => List.Pairwise.nil
  | x :: r => pinsI_sorted x _ (psortI_sorted r)
theorem sortI_asc {l : List Int} (h : l.Nodup) : Asc (sortI l) := by
  have h1 := psortI_sorted l
  have h2 : (sortI l).Nodup := (psortI_perm l).nodup_iff.mpr h
  exact (h1.and h2).imp fun {a b} ⟨x, y⟩ => by omega
theorem sortI_lot {l : List Int} {size : Int} {n : Nat} (h : l.Nodup) (hl : l.length = n) (hb : ∀ x ∈ l, 0 ≤ x ∧ x < size) : sortI l ∈ lotsN size n :=
  mem_lots.mpr ⟨(psortI_perm l).length_eq.trans hl, sortI_asc h, fun x hx => hb x ((psortI_perm l).mem_iff.mp hx)⟩
/-! ### without doubles -/
theorem ddI_sub : ∀ {l : List Int} {x : Int}, x ∈ ddI l ↔ x ∈ l
  | [], x => Iff.rfl
  | y :: r, x => by
    unfold ddI
    split
    · rename_i h
      rw [ddI_sub, List.mem_cons]
      refine ⟨.inr, fun h' => h'.elim (fun e => ?_) id⟩
      rw [e]; simpa using h
    · rw [List.mem_cons, List.mem_cons, ddI_sub]
theorem pddI_nodup : ∀ l : List Int, (ddI l).Nodup
  | [] => List.Pairwise.nil
  | y :: r => by
    unfold ddI
    split
    · exact pddI_nodup r
    · rename_i h
      refine List.nodup_cons.mpr ⟨fun h' => h ?_, pddI_nodup r⟩
      simpa using ddI_sub.mp h'
theorem ddI_le : ∀ l : List Int, (ddI l).length ≤ l.length
  | [] => Nat.le_refl _
  | y :: r => by
    unfold ddI
    have := ddI_le r
    split
    · simp only [List.length_cons]; omega
    · simp only [List.length_cons]; omega
theorem ddI_id : ∀ {l : List Int}, l.Nodup → ddI l = l
  | [], _ => rfl
  | y :: r, h => by
    unfold ddI
    have h' := List.nodup_cons.mp h
    rw [if_neg (by simpa using h'.1), ddI_id h'.2]
theorem ddI_lt : ∀ {l : List Int}, ¬ l.Nodup → (ddI l).length < l.length
  | [], h => absurd List.Pairwise.nil h
  | y :: r, h => by
    unfold ddI
    have := ddI_le r
    split
    · simp only [List.length_cons]; omega
    · rename_i hc
      have hr : ¬ r.Nodup := fun hr => h (List.nodup_cons.mpr ⟨by simpa using hc, hr⟩)
      have := ddI_lt hr
      simp only [List.length_cons]; omega
/-! ### the sign of sorting -/
/-- by the later ones that are less -/
def sgP (x : Int) : List Int → Int
  | [] => 1
  | y :: r => (if y < x then -1 else 1) * sgP x r
def sgL : List Int → Int
  | [] => 1
  | x :: r => sgP x r * sgL r
/-- by the earlier ones that are greater -/
def sgQ (x : Int) : List Int → Int
  | [] => 1
  | y :: r => (if x < y then -1 else 1) * sgQ x r
def sgR : List Int → List Int → Int
  | _, [] => 1
  | pre, x :: r => sgQ x pre * sgR (pre ++ [x]) r
def sgC (l : List Int) : List Int → Int
  | [] => 1
  | y :: r => sgP y l * sgC l r
theorem sgC_nil : ∀ pre, sgC [] pre = 1
  | [] => rfl
  | y :: r => by unfold sgC; rw [sgC_nil r]; rfl
theorem sgC_cons (x : Int) (l : List Int) : ∀ pre, sgC (x :: l) pre = sgQ x pre * sgC l pre
  | [] => rfl
  | y :: r => by
    unfold sgC sgQ
    rw [sgC_cons x l r, sgP]
    simp only [Int.mul_assoc, Int.mul_left_comm]
theorem sgC_snoc (l : List Int) (x : Int) : ∀ pre, sgC l (pre ++ [x]) = sgC l pre * sgP x l
  | [] => by show sgP x l * 1 = 1 * sgP x l; omega
  | y :: r => by
    show sgP y l * sgC l (r ++ [x]) = sgP y l * sgC l r * sgP x l
    rw [sgC_snoc l x r, Int.mul_assoc]
theorem sgR_eq : ∀ (l pre : List Int), sgR pre l = sgC l pre * sgL l
  | [], pre => by rw [sgC_nil]; rfl
  | x :: r, pre => by
    show sgQ x pre * sgR (pre ++ [x]) r = sgC (x :: r) pre * (sgP x r * sgL r)
    rw [sgR_eq r, sgC_snoc, sgC_cons]
    simp only [Int.mul_assoc]
theorem sgR_nil (l : List Int) : sgR [] l = sgL l := by rw [sgR_eq]; show 1 * _ = _; omega
theorem sgP_one (x : Int) : ∀ l, sgP x l = 1 ∨ sgP x l = -1
  | [] => .inl rfl
  | y :: r => by
    unfold sgP
    split <;> rcases sgP_one x r with h | h <;> rw [h] <;> decide
theorem sgL_one : ∀ l, sgL l = 1 ∨ sgL l = -1
  | [] => .inl rfl
  | x :: r => by
    unfold sgL
    rcases sgP_one x r with h | h <;> rcases sgL_one r with h' | h' <;> rw [h, h'] <;> decide
def sgO (l : List Int) : Int := if l.Nodup then sgL l else 0
theorem sgO_nd {l : List Int} (h : l.Nodup) : sgO l = sgL l := if_pos h
end Mini

set_option Elab.async false
set_option linter.all false
set_option maxRecDepth 100000
/-! MiniE: the laws' draws, for plain proofs. -/
namespace Mini
open PySem (Str PyData)
def f__law_begun : Fn := ⟨["script"], ["script", "great", "cell"], .cons (.asg (.nm 1) (.lc true (.op .sub (.bi .abs (.cons (.var 2) .nil)) (.op .pow (.int 10) (.int 18))) (.nm 2) (.val (.var 0)) (.cons (.cmp .ge (.bi .abs (.cons (.var 2) .nil)) (.op .pow (.int 10) (.int 18))) .nil) [("cell", 2)])) (.cons (.ret (.dict true (.cons (.str "great") (.cons (.var 1) (.cons (.str "cells") (.cons (.lc false (.bi .abs (.cons (.var 2) .nil)) (.nm 2) (.val (.var 0)) .nil [("cell", 2)]) (.cons (.str "left") (.cons (.int 0) (.cons (.str "turn") (.cons (.int 0) .nil)))))))))) .nil), false⟩
def f__law_blended : Fn := ⟨["state"], ["state", "turn", "found", "prime", "blend", "cell"], .cons (.par [1, 2] (.cons (.op .add (.sub (.var 0) (.str "turn")) (.int 1)) (.cons (.int 0) .nil))) (.cons (.asg (.sb (.var 0) (.str "turn")) (.var 1)) (.cons (.forr (.nm 3) (.val (.lst false (.cons (.int 2147482501) (.cons (.int 2147482481) (.cons (.int 2147482417) .nil))))) (.cons (.asg (.nm 4) (.op .add (.op .mul (.int 39373) (.var 1)) (.op .fdiv (.var 3) (.int 67)))) (.cons (.forr (.nm 5) (.val (.sub (.var 0) (.str "cells"))) (.cons (.asg (.nm 4) (.op .mod (.bi .int (.cons (.op .add (.op .add (.op .mul (.var 4) (.int 69621)) (.var 5)) (.var 1)) .nil)) (.var 3))) .nil)) (.cons (.asg (.nm 2) (.op .add (.op .mul (.var 2) (.int 2147483647)) (.op .mod (.bi .int (.cons (.op .pow (.var 4) (.int 5)) .nil)) (.var 3)))) .nil)))) (.cons (.ret (.var 2)) .nil))), false⟩
def f__law_draw : Fn := ⟨["state", "size_here"], ["state", "size_here", "found"], .cons (.iff (.cmp .eq (.sub (.var 0) (.str "left")) (.int 0)) (.cons (.asg (.sb (.var 0) (.str "left")) (.ite (.cmp .ne (.sub (.var 0) (.str "great")) (.lst false .nil)) (.meth .popat (.sub (.var 0) (.str "great")) (.cons (.int 0) .nil)) (.call "_law_blended" (.cons (.var 0) .nil)))) .nil) .nil) (.cons (.asg (.nm 2) (.op .mod (.bi .int (.cons (.sub (.var 0) (.str "left")) .nil)) (.var 1))) (.cons (.asg (.sb (.var 0) (.str "left")) (.op .fdiv (.sub (.var 0) (.str "left")) (.var 1))) (.cons (.ret (.var 2)) .nil))), false⟩
def f__law_pick : Fn := ⟨["state", "several"], ["state", "several"], .cons (.ret (.sub (.var 1) (.call "_law_draw" (.cons (.var 0) (.cons (.bi .len (.cons (.var 1) .nil)) .nil))))) .nil, false⟩
def f__law_mixed : Fn := ⟨["state", "several"], ["state", "several", "left", "found"], .cons (.par [2, 3] (.cons (.mls (.var 1)) (.cons (.lst true .nil) .nil))) (.cons (.whl 100000 (.cmp .ne (.var 2) (.lst false .nil)) (.cons (.ex (.meth .append (.var 3) (.cons (.meth .popat (.var 2) (.cons (.call "_law_draw" (.cons (.var 0) (.cons (.bi .len (.cons (.var 2) .nil)) .nil))) .nil)) .nil))) .nil)) (.cons (.ret (.var 3)) .nil)), true⟩
/-- the draws without the mixing -/
structure Draw0T (T : Str → Option Fn) : Prop where
  begun : T "_law_begun" = some f__law_begun
  blended : T "_law_blended" = some f__law_blended
  draw : T "_law_draw" = some f__law_draw
  pick : T "_law_pick" = some f__law_pick
structure DrawT (T : Str → Option Fn) : Prop extends Draw0T T where
  mixed : T "_law_mixed" = some f__law_mixed
instance {T : Str → Option Fn} : Coe (DrawT T) (Draw0T T) := ⟨DrawT.toDraw0T⟩
structure DSt where
  great : List Int
  cells : List Int
  left : Int
  turn : Int
def stK : List PV := [.str "great", .str "cells", .str "left", .str "turn"]
def encS (d : DSt) : Store := [.lst (d.great.map .int), .dic false stK [.ref 0, .lst (d.cells.map .int), .int d.left, .int d.turn]]
@[simp] theorem sub_great (d : DSt) (r : Store) : subG (.ref 1) (.str "great") (encS d ++ r) = some (.ref 0) := rfl
@[simp] theorem sub_cells (d : DSt) (r : Store) : subG (.ref 1) (.str "cells") (encS d ++ r) = some (.lst (d.cells.map .int)) := rfl
@[simp] theorem sub_left (d : DSt) (r : Store) : subG (.ref 1) (.str "left") (encS d ++ r) = some (.int d.left) := rfl
@[simp] theorem sub_turn (d : DSt) (r : Store) : subG (.ref 1) (.str "turn") (encS d ++ r) = some (.int d.turn) := rfl
@[simp] theorem set_left (d : DSt) (r : Store) (i : Int) : setI (.ref 1) (.str "left") (.int i) (encS d ++ r) = some (encS { d with left := i } ++ r) := rfl
@[simp] theorem set_turn (d : DSt) (r : Store) (i : Int) : setI (.ref 1) (.str "turn") (.int i) (encS d ++ r) = some (encS { d with turn := i } ++ r) := rfl
@[simp] theorem lst0 (d : DSt) (r : Store) : lstOf (encS d ++ r) (.ref 0) = some (d.great.map .int) := rfl
theorem int1 (i : Int) (s : Store) : biF .int [.int i] s = some (.int i) := rfl
theorem pow5 {b : Int} {s : Store} (h : b.natAbs < 2 ^ 64) : bop .pow (.int b) (.int 5) s = some (.int (b ^ 5)) := by
  show (if decide (0 ≤ (5 : Int) ∧ (5 : Int) ≤ 1000000 ∧ b.natAbs < 2 ^ 64) then some (PV.int (b ^ (5 : Int).toNat)) else none) = _
  rw [if_pos (decide_eq_true ⟨by decide, by decide, h⟩)]
  rfl
theorem mulR {i j : Int} {s : Store} (h : small64 j = true) : bop .mul (.int i) (.int j) s = some (.int (i * j)) := mul_int (by rw [h]; exact Bool.or_true _)
theorem mulL_ {i j : Int} {s : Store} (h : small64 i = true) : bop .mul (.int i) (.int j) s = some (.int (i * j)) := mul_int (by rw [h]; rfl)
theorem blended_ok {T : Str → Option Fn} (hT : Draw0T T) {n : Nat} (d : DSt) (r : Store) (h0 : 0 ≤ d.turn) (h1 : d.turn < 2 ^ 40) : ∃ v : Int, run T (n + 1) "_law_blended" [.ref 1] (encS d ++ r) = .ok (.int v) (encS { d with turn := d.turn + 1 } ++ r) := by
  rw [run_eq hT.blended rfl]
  generalize hs : encS { d with turn := d.turn + 1 } ++ r = s1
  have hsub : subG (.ref 1) (.str "cells") s1 = some (.lst (d.cells.map .int)) := by rw [← hs]; rfl
  -- the inner walk
  have inner : ∀ (p : Int), 0 < p → p < 2 ^ 40 → ∀ (ρ4 : Option PV) (fd b : Int), b.natAbs < 2 ^ 64 → ∃ ρ5 b', forGo [] (fun x ρ => evTg (run T n) (.nm 5) x ρ) (exSs (run T n) (.cons (.asg (.nm 4) (.op .mod (.bi .int (.cons (.op .add (.op .add (.op .mul (.var 4) (.int 69621)) (.var 5)) (.var 1)) .nil)) (.var 3))) .nil)) (d.cells.map .int) [some (.ref 1), some (.int (d.turn + 1)), some (.int fd), some (.int p), some (.int b), ρ4] s1 =
      .ok (.nx [some (.ref 1), some (.int (d.turn + 1)), some (.int fd), some (.int p), some (.int b'), ρ5]) s1 ∧ b'.natAbs < 2 ^ 64 := by
    intro p hp hp2 ρ4 fd b hb
    obtain ⟨ρ', s', e, ⟨b', ρ5, e1, e2, e3⟩⟩ := forGo_inv (X := Int) (enc := PV.int) (wt := []) (bind := fun x ρ => evTg (run T n) (.nm 5) x ρ) (body := exSs (run T n) (.cons (.asg (.nm 4) (.op .mod (.bi .int (.cons (.op .add (.op .add (.op .mul (.var 4) (.int 69621)) (.var 5)) (.var 1)) .nil)) (.var 3))) .nil))
      (fun _ ρ s => ∃ b' ρ5, ρ = [some (.ref 1), some (.int (d.turn + 1)), some (.int fd), some (.int p), some (.int b'), ρ5] ∧ s = s1 ∧ b'.natAbs < 2 ^ 64) (fun _ _ _ _ => rfl)
      (fun x r ρ s ⟨b', ρ5, e1, e2, e3⟩ => by
        subst e1 e2
        refine ⟨_, s, by simp; rfl, ?_⟩
        refine ⟨_, s, .inl (by simp [mulR (show small64 69621 = true by decide), int1, mod_int hp]; rfl), ?_⟩
        refine ⟨_, _, rfl, rfl, ?_⟩
        have := Int.emod_nonneg (b' * 69621 + x + (d.turn + 1)) (show p ≠ 0 by omega)
        have := Int.emod_lt_of_pos (b' * 69621 + x + (d.turn + 1)) hp
        omega)
      d.cells _ s1 ⟨b, ρ4, rfl, rfl, hb⟩
    subst e1 e2
    exact ⟨ρ5, b', e, e3⟩
  have outer := forGo_inv (X := Int) (enc := PV.int) (wt := []) (bind := fun x ρ => evTg (run T n) (.nm 3) x ρ) (body := exSs (run T n) (.cons (.asg (.nm 4) (.op .add (.op .mul (.int 39373) (.var 1)) (.op .fdiv (.var 3) (.int 67)))) (.cons (.forr (.nm 5) (.val (.sub (.var 0) (.str "cells"))) (.cons (.asg (.nm 4) (.op .mod (.bi .int (.cons (.op .add (.op .add (.op .mul (.var 4) (.int 69621)) (.var 5)) (.var 1)) .nil)) (.var 3))) .nil)) (.cons (.asg (.nm 2) (.op .add (.op .mul (.var 2) (.int 2147483647)) (.op .mod (.bi .int (.cons (.op .pow (.var 4) (.int 5)) .nil)) (.var 3)))) .nil))))
      (fun r ρ s => (∃ fd ρ3 ρ4 ρ5, ρ = [some (.ref 1), some (.int (d.turn + 1)), some (.int fd), ρ3, ρ4, ρ5] ∧ s = s1) ∧ ∀ p ∈ r, 0 < p ∧ p < 2 ^ 40) (fun _ _ _ _ => rfl)
      (fun p r ρ s ⟨⟨fd, ρ3, ρ4, ρ5, e1, e2⟩, hp⟩ => by
        subst e1 e2
        obtain ⟨hp0, hp1⟩ := hp p (List.mem_cons_self ..)
        have hd : (p / 67 : Int) ≤ p ∧ 0 ≤ p / 67 := by omega
        obtain ⟨ρ5', b', e, hb⟩ := inner p hp0 hp1 ρ5 fd (39373 * (d.turn + 1) + p / 67) (by omega)
        refine ⟨_, s, by simp; rfl, ?_⟩
        refine ⟨[some (.ref 1), some (.int (d.turn + 1)), some (.int (fd * 2147483647 + b' ^ 5 % p)), some (.int p), some (.int b'), ρ5'], s, .inl (by
          simp [mulL_ (show small64 39373 = true by decide), fdiv_int (show (0 : Int) < 67 by decide) (by decide), hsub, e, mulR (show small64 2147483647 = true by decide), int1, mod_int hp0, pow5 hb]), ⟨_, _, _, _, rfl, rfl⟩, fun q hq => hp q (List.mem_cons_of_mem _ hq)⟩)
      [2147482501, 2147482481, 2147482417] [some (.ref 1), some (.int (d.turn + 1)), some (.int 0), none, none, none] s1 ⟨⟨0, none, none, none, rfl, rfl⟩, by
        intro p hp
        simp only [List.mem_cons, List.not_mem_nil, or_false] at hp
        rcases hp with e | e | e <;> subst e <;> decide⟩
  obtain ⟨ρ', s', e, ⟨fd, ρ3, ρ4, ρ5, e1, e2⟩, _⟩ := outer
  subst e1 e2
  refine ⟨fd, ?_⟩
  simp only [List.map_cons, List.map_nil] at e
  simp [f__law_blended, start, setAll, hs, mkLst_f, e]
theorem ne_great (d : DSt) (r : Store) : cop .ne (.ref 0) (.lst []) (encS d ++ r) = some (decide (d.great ≠ [])) := by
  show (eqD (encS d ++ r) (.ref 0) (.lst [])).map not = _
  have z : eqD (encS d ++ r) (.ref 0) (.lst []) = if okD (.list (d.great.map .int)) && okD (.list []) then some (PyData.eqv (.list (d.great.map .int)) (.list [])) else none := by
    show (match (toDs (d.great.map .int)).map PyData.list, some (PyData.list []) with | some d, some e => if okD d && okD e then some (PyData.eqv d e) else none | _, _ => none) = _
    rw [toDs_ints]
    rfl
  rw [z, okD_lints, show okD (.list []) = true from okD_lints []]
  cases d.great <;> rfl
theorem pop_great (d : DSt) (r : Store) (x : Int) (q : List Int) (h : d.great = x :: q) : M.liftS (meth .popat (.ref 0) [.int 0]) (encS d ++ r) = .ok (.int x) (encS { d with great := q } ++ r) := by
  obtain ⟨g, c, l, t⟩ := d
  cases h
  have z : L2.ixN (q.length + 1) 0 = some 0 := by
    unfold L2.ixN
    rw [if_pos (by decide), if_pos (by omega)]
    rfl
  simp [M.liftS, meth, methL, encS, z]
theorem draw_ok {T : Str → Option Fn} (hT : Draw0T T) {n : Nat} (d : DSt) (r : Store) (k : Int) (hk : 0 < k) (hk2 : k < 1073741824) (h0 : 0 ≤ d.turn) (h1 : d.turn < 2 ^ 40) : ∃ (v : Int) (d' : DSt), run T (n + 2) "_law_draw" [.ref 1, .int k] (encS d ++ r) = .ok (.int v) (encS d' ++ r) ∧ 0 ≤ v ∧ v < k ∧ d.turn ≤ d'.turn ∧ d'.turn ≤ d.turn + 1 := by
  rw [run_eq hT.draw rfl]
  by_cases hl : d.left = 0
  · by_cases hg : d.great = []
    · obtain ⟨b, hb⟩ := blended_ok hT (n := n) d r h0 h1
      refine ⟨b % k, { d with turn := d.turn + 1, left := b / k }, ?_, Int.emod_nonneg _ (by omega), Int.emod_lt_of_pos _ hk, by show d.turn ≤ d.turn + 1; omega, by show d.turn + 1 ≤ d.turn + 1; omega⟩
      simp [f__law_draw, start, hl, ne_great, hg, hb, int1, mod_int hk, fdiv_int hk hk2]
    · obtain ⟨x, q, hg'⟩ := List.exists_cons_of_ne_nil hg
      refine ⟨x % k, { d with great := q, left := x / k }, ?_, Int.emod_nonneg _ (by omega), Int.emod_lt_of_pos _ hk, by show d.turn ≤ d.turn; omega, by show d.turn ≤ d.turn + 1; omega⟩
      simp [f__law_draw, start, hl, ne_great, hg', pop_great d r x q hg', int1, mod_int hk, fdiv_int hk hk2]
  · refine ⟨d.left % k, { d with left := d.left / k }, ?_, Int.emod_nonneg _ (by omega), Int.emod_lt_of_pos _ hk, by show d.turn ≤ d.turn; omega, by show d.turn ≤ d.turn + 1; omega⟩
    simp [f__law_draw, start, hl, int1, mod_int hk, fdiv_int hk hk2]
theorem pick_lst {T : Str → Option Fn} (hT : Draw0T T) {n : Nat} (d : DSt) (r : Store) (xs : List PV) (hk : xs ≠ []) (hk2 : xs.length < 1000000) (h0 : 0 ≤ d.turn) (h1 : d.turn < 2 ^ 40) : ∃ (x : PV) (d' : DSt), x ∈ xs ∧ run T (n + 3) "_law_pick" [.ref 1, .lst xs] (encS d ++ r) = .ok x (encS d' ++ r) ∧ d.turn ≤ d'.turn ∧ d'.turn ≤ d.turn + 1 := by
  have hl : 0 < xs.length := by cases xs with
    | nil => exact absurd rfl hk
    | cons _ _ => simp
  obtain ⟨v, d', e, v0, v1, t0, t1⟩ := draw_ok hT (n := n) d r (xs.length : Int) (by omega) (by omega) h0 h1
  refine ⟨xs[v.toNat]'(by omega), d', List.getElem_mem _, ?_, t0, t1⟩
  rw [run_eq hT.pick rfl]
  simp [f__law_pick, start, e, sub_lst, atI_in v0 v1]
def absI (i : Int) : Int := if i < 0 then -i else i
theorem fill4 (a b c e : PV) : dfill ([], []) [(.str "great", a), (.str "cells", b), (.str "left", c), (.str "turn", e)] = (stK, [a, b, c, e]) := rfl
theorem begun_ok {T : Str → Option Fn} (hT : Draw0T T) {n : Nat} (ns : List Int) (hl : ns.length ≤ 63) : ∃ d : DSt, run T (n + 1) "_law_begun" [.scr (ns.map .int)] [] = .ok (.ref 1) (encS d) ∧ d.turn = 0 := by
  rw [run_eq hT.begun rfl]
  have e18 : ∀ s, bop .pow (.int 10) (.int 18) s = some (.int 1000000000000000000) := fun s => rfl
  have c1 := compGo_filter (X := Int) (enc := PV.int) (wt := []) (s := []) (bind := fun x => evTg (run T n) (.nm 2) x (wipe [some (.scr (ns.map .int)), none, none] [2])) (test := evIf (run T n) (.cons (.cmp .ge (.bi .abs (.cons (.var 2) .nil)) (.op .pow (.int 10) (.int 18))) .nil))
    (el := fun ρ => (evE (run T n) (.op .sub (.bi .abs (.cons (.var 2) .nil)) (.op .pow (.int 10) (.int 18))) ρ).bnd fun y => M.ret [y]) (fun x => decide (1000000000000000000 ≤ absI x)) (fun x => PV.int (absI x - 1000000000000000000)) rfl ns fun x hx => by
      refine ⟨[some (.scr (ns.map .int)), none, some (.int x)], by simp [wipe], ?_, fun _ => ?_⟩
      · simp [e18, absI]
        rfl
      · simp [e18, absI]
  generalize hg : ((ns.filter fun x => decide (1000000000000000000 ≤ absI x)).map fun x => PV.int (absI x - 1000000000000000000)) = gs at c1
  have hgl : gs.length ≤ 16777216 := by
    rw [← hg, List.length_map]
    have := List.length_filter_le (fun x => decide (1000000000000000000 ≤ absI x)) ns
    omega
  have c2 := compGo_map (X := Int) (enc := PV.int) (wt := []) (s := [.lst gs]) (bind := fun x => evTg (run T n) (.nm 2) x (wipe [some (.scr (ns.map .int)), some (.ref 0), none] [2])) (test := evIf (run T n) .nil)
    (el := fun ρ => (evE (run T n) (.bi .abs (.cons (.var 2) .nil)) ρ).bnd fun y => M.ret [y]) (fun x => PV.int (absI x)) rfl ns fun x hx => by
      exact ⟨[some (.scr (ns.map .int)), some (.ref 0), some (.int x)], by simp [wipe], by simp, by simp [absI]⟩
  refine ⟨⟨(ns.filter fun x => decide (1000000000000000000 ≤ absI x)).map fun x => absI x - 1000000000000000000, ns.map absI, 0, 0⟩, ?_, rfl⟩
  have hgs : encS ⟨(ns.filter fun x => decide (1000000000000000000 ≤ absI x)).map fun x => absI x - 1000000000000000000, ns.map absI, 0, 0⟩ = [.lst gs, .dic false stK [.ref 0, .lst (ns.map fun x => PV.int (absI x)), .int 0, .int 0]] := by
    unfold encS
    simp [← hg]
  rw [hgs]
  simp [f__law_begun, start, c1, mkLst_t hgl, c2, mkLst_f (show (ns.map fun x => PV.int (absI x)).length ≤ 16777216 by rw [List.length_map]; omega), pairUp, keyB, mkDic, fill4]
theorem encS_len (d : DSt) : (encS d).length = 2 := rfl
theorem fin_st {d d' : DSt} {r ex : Store} {v v' : PV} (h : lock (encS d' ++ (r ++ ex)) (r.length + 2) 50 v = some v') : fin true (encS d ++ r) v (encS d' ++ (r ++ ex)) = .ok v' (encS d' ++ r) := by
  have hn : (encS d ++ r).length = r.length + 2 := by rw [List.length_append, encS_len]; omega
  unfold fin
  rw [if_pos rfl, hn, h]
  show (if cutOk (encS d ++ r) (encS d' ++ (r ++ ex)) then R.ok v' ((encS d' ++ (r ++ ex)).take (r.length + 2)) else .stuck) = _
  have ht : (encS d' ++ (r ++ ex)).take (r.length + 2) = encS d' ++ r := by
    rw [← List.append_assoc]
    have : r.length + 2 = (encS d' ++ r).length := by rw [List.length_append, encS_len]; omega
    rw [this, List.take_left]
  rw [ht, if_pos]
  refine cutOk_of (by rw [hn, List.length_append, encS_len, List.length_append]; omega) fun i o o' hi e1 e2 => ?_
  rw [hn] at hi ⊢
  match i with
  | 0 =>
    have : o' = .lst (d'.great.map .int) := (Option.some.inj e2).symm
    rw [this]
    right
    show unders _ (d'.great.map .int) = true
    generalize d'.great = l
    induction l with
    | nil => rfl
    | cons x q ih => show (true && unders _ (q.map .int)) = true; rw [ih]; rfl
  | 1 =>
    have : o' = .dic false stK [.ref 0, .lst (d'.cells.map .int), .int d'.left, .int d'.turn] := (Option.some.inj e2).symm
    rw [this]
    right
    have hc : unders (r.length + 2) (d'.cells.map .int) = true := by
      generalize d'.cells = l
      induction l with
      | nil => rfl
      | cons x q ih => show (true && unders _ (q.map .int)) = true; rw [ih]; rfl
    show (unders (r.length + 2) stK && (decide (0 < r.length + 2) && (unders (r.length + 2) (d'.cells.map .int) && (true && (true && true))))) = true
    rw [hc, decide_eq_true (by omega : 0 < r.length + 2)]
    rfl
  | i + 2 =>
    left
    have e1 : r[i]? = some o := e1
    have e2 : (r ++ ex)[i]? = some o' := e2
    rw [List.getElem?_append_left (by omega), e1] at e2
    exact Option.some.inj e2
theorem st_at {d : DSt} {r ex : Store} {o : SO} (i : Nat) (h : ex[i]? = some o) : (encS d ++ (r ++ ex))[r.length + 2 + i]? = some o := by
  have : r.length + 2 + i = (r.length + i) + 2 := by omega
  rw [this]
  show (r ++ ex)[r.length + i]? = some o
  rw [List.getElem?_append_right (by omega)]
  have : r.length + i - r.length = i := by omega
  rw [this]; exact h
theorem st_set {d : DSt} {r ex : Store} {o : SO} (i : Nat) : (encS d ++ (r ++ ex)).set (r.length + 2 + i) o = encS d ++ (r ++ ex.set i o) := by
  have : r.length + 2 + i = (r.length + i) + 2 := by omega
  rw [this]
  show encS d ++ (r ++ ex).set (r.length + i) o = _
  rw [List.set_append_right _ _ (by omega)]
  have : r.length + i - r.length = i := by omega
  rw [this]
theorem eraseIdx_perm {α : Type} : ∀ {l : List α} {i : Nat} (h : i < l.length), (l[i] :: l.eraseIdx i).Perm l
  | x :: r, 0, _ => List.Perm.refl _
  | x :: r, i + 1, h => (List.Perm.swap x _ _).trans ((eraseIdx_perm (l := r) (i := i) (by simpa using h)).cons x)
theorem mixed_ok {T : Str → Option Fn} (hT : DrawT T) {n : Nat} (d : DSt) (r : Store) (v : PV) (xs : List PV) (hs : seqOf (encS d ++ r) v = some xs) (D : ∀ x ∈ xs, Dat x) (L : ∀ x ∈ xs, ∀ s n0, lock s n0 49 x = some x) (hl : xs.length < 1000) (h0 : 0 ≤ d.turn) (h1 : d.turn + xs.length < 2 ^ 40) :
    ∃ (ys : List PV) (d' : DSt), ys.Perm xs ∧ run T (n + 3) "_law_mixed" [.ref 1, v] (encS d ++ r) = .ok (.lst ys) (encS d' ++ r) ∧ d.turn ≤ d'.turn ∧ d'.turn ≤ d.turn + xs.length := by
  rw [run_eq hT.mixed rfl]
  have hn : (encS d ++ r).length = r.length + 2 := by rw [List.length_append, encS_len]; omega
  have W := whlGo_inv (test := fun ρ => (evE (run T (n + 2)) (.cmp .ne (.var 2) (.lst false .nil)) ρ).bnd truthM) (body := exSs (run T (n + 2)) (.cons (.ex (.meth .append (.var 3) (.cons (.meth .popat (.var 2) (.cons (.call "_law_draw" (.cons (.var 0) (.cons (.bi .len (.cons (.var 2) .nil)) .nil))) .nil)) .nil))) .nil))
    (fun k ρ s => ∃ (d' : DSt) (left found : List PV), ρ = [some (.ref 1), some v, some (.ref (r.length + 2)), some (.ref (r.length + 3))] ∧ s = encS d' ++ (r ++ [.lst left, .lst found]) ∧ left.length = k ∧ k ≤ xs.length ∧ (found ++ left).Perm xs ∧ d.turn ≤ d'.turn ∧ d'.turn ≤ d.turn + (xs.length - k : Nat))
    (fun ρ s ⟨d', left, found, e1, e2, e3, e4, e5, e6, e7⟩ => by
      subst e1 e2
      have hl0 : left = [] := List.eq_nil_of_length_eq_zero e3
      subst hl0
      refine ⟨_, ?_, d', [], found, rfl, rfl, rfl, e4, e5, e6, e7⟩
      have a0 : (encS d' ++ (r ++ [.lst [], .lst found]))[r.length + 2]? = some (.lst []) := st_at 0 rfl
      simp [ne_nil_ref a0 (fun x hx => by cases hx)])
    (fun k ρ s ⟨d', left, found, e1, e2, e3, e4, e5, e6, e7⟩ => by
      subst e1 e2
      have a0 : ∀ d', (encS d' ++ (r ++ [.lst left, .lst found]))[r.length + 2]? = some (.lst left) := fun d' => st_at 0 rfl
      have a1 : ∀ d', (encS d' ++ (r ++ [.lst left, .lst found]))[r.length + 3]? = some (.lst found) := fun d' => st_at 1 rfl
      have hmem : ∀ x ∈ left, x ∈ xs := fun x hx => e5.mem_iff.mp (List.mem_append_right _ hx)
      have hne : left.isEmpty = false := by cases left with
        | nil => cases e3
        | cons _ _ => rfl
      obtain ⟨w, d2, ew, w0, w1, t0, t1⟩ := draw_ok hT.toDraw0T (n := n) d' (r ++ [.lst left, .lst found]) (left.length : Int) (by omega) (by omega) (by omega) (by omega)
      have hw : w.toNat < left.length := by omega
      refine ⟨encS d' ++ (r ++ [SO.lst left, SO.lst found]), by simp [ne_nil_ref (a0 d') (fun x hx => D x (hmem x hx)), hne], ?_⟩
      refine ⟨[some (.ref 1), some v, some (.ref (r.length + 2)), some (.ref (r.length + 3))], encS d2 ++ (r ++ [SO.lst (left.eraseIdx w.toNat), SO.lst (found ++ [left[w.toNat]])]), ?_, d2, left.eraseIdx w.toNat, found ++ [left[w.toNat]], rfl, rfl, ?_, by omega, ?_, by omega, by omega⟩
      · have s1 : (encS d2 ++ (r ++ [SO.lst left, SO.lst found])).set (r.length + 2) (.lst (left.eraseIdx w.toNat)) = encS d2 ++ (r ++ [SO.lst (left.eraseIdx w.toNat), SO.lst found]) := st_set 0
        have a2 : (encS d2 ++ (r ++ [SO.lst (left.eraseIdx w.toNat), SO.lst found]))[r.length + 3]? = some (.lst found) := st_at 1 rfl
        have s2 : (encS d2 ++ (r ++ [SO.lst (left.eraseIdx w.toNat), SO.lst found])).set (r.length + 3) (.lst (found ++ [left[w.toNat]])) = encS d2 ++ (r ++ [SO.lst (left.eraseIdx w.toNat), SO.lst (found ++ [left[w.toNat]])]) := st_set 1
        have hf : found.length < 16777216 := by have := e5.length_eq; rw [List.length_append] at this; omega
        simp [lstOf_ref (a1 d'), lstOf_ref (a0 d'), len_ref (a0 d'), ew, pop_ref (a0 d2) w0 w1, s1, app_ref a2 hf, s2]
      · rw [List.length_eraseIdx_of_lt hw, e3]; omega
      · refine List.Perm.trans ?_ e5
        rw [List.append_assoc]
        refine List.Perm.append_left _ ?_
        exact eraseIdx_perm hw)
  obtain ⟨ρ', s', e, d', left, found, e1, e2, e3, e4, e5, e6, e7⟩ := W xs.length 100000 [some (.ref 1), some v, some (.ref (r.length + 2)), some (.ref (r.length + 3))] (encS d ++ (r ++ [.lst xs, .lst []])) (by omega) ⟨d, xs, [], rfl, rfl, rfl, Nat.le_refl _, List.Perm.refl _, Int.le_refl _, by omega⟩
  have hl0 : left = [] := List.eq_nil_of_length_eq_zero e3
  subst e1 e2 hl0
  rw [List.append_nil] at e5
  refine ⟨found, d', e5, ?_, e6, by omega⟩
  have F : lock (encS d' ++ (r ++ [.lst [], .lst found])) (r.length + 2) 50 (.ref (r.length + 3)) = some (.lst found) := lock_ref (by omega) (st_at 1 rfl) fun x hx => L x (e5.mem_iff.mp hx) _ _
  have hn3 : (encS d).length + (r.length + 1) = r.length + 3 := by rw [encS_len]; omega
  simp [f__law_mixed, start, setAll, hs, hn, hn3, mkLst_t, e, fin_st F]
end Mini

set_option Elab.async false
set_option linter.all false
set_option maxRecDepth 100000
/-! MiniR: tuples of whole numbers as values, for plain proofs. -/
namespace Mini
open PySem (Str PyData sizeLine)
section
variable {s : Store}
@[simp] theorem seqOf_tupI {l : List Int} : seqOf s (tupI l) = some (l.map .int) := rfl
@[simp] theorem watch_tupI {l : List Int} : watch s (tupI l) = [] := rfl
@[simp] theorem dicOf_tupI {l : List Int} : dicOf s (tupI l) = none := rfl
@[simp] theorem lstOf_tupI {l : List Int} : lstOf s (tupI l) = none := rfl
@[simp] theorem truth_tupI {l : List Int} : truth s (tupI l) = some (!l.isEmpty) := by
  show some (!(l.map PV.int).isEmpty) = _
  rw [List.isEmpty_map]
@[simp] theorem tuple_tupI {l : List Int} : biF .tuple [tupI l] s = some (tupI l) := rfl
@[simp] theorem tuple_ints {l : List Int} : biF .tuple [.lst (l.map .int)] s = some (tupI l) := rfl
@[simp] theorem len_tupI {l : List Int} : biF .len [tupI l] s = some (.int l.length) := by
  show some (PV.int (l.map PV.int).length) = _
  rw [List.length_map]
theorem szOk_lt {n : Nat} (h : n ≤ 16777216) : szOk n = true := szOk_of h
@[simp] theorem szOk0 : szOk 0 = true := szOk_of (by decide)
@[simp] theorem szOk1 : szOk 1 = true := szOk_of (by decide)
@[simp] theorem szOk2 : szOk 2 = true := szOk_of (by decide)
@[simp] theorem szOk3 : szOk 3 = true := szOk_of (by decide)
@[simp] theorem szOk4 : szOk 4 = true := szOk_of (by decide)
theorem toD_tupI (l : List Int) : toD (tupI l) = some (.tuple (l.map .int)) := by
  show (toDs (l.map .int)).map PyData.tuple = _
  rw [toDs_ints]; rfl
theorem toDS_tupI (l : List Int) : toDS s (tupI l) = some (.tuple (l.map .int)) := toD_tupI l
theorem toDs_tups : ∀ L : List (List Int), toDs (L.map tupI) = some (L.map fun l => .tuple (l.map .int))
  | [] => rfl
  | x :: r => by simp only [List.map_cons, toDs, toD_tupI, toDs_tups r]
theorem canLay_tups : ∀ L : List (List Int), PyData.canLayAll0 (L.map fun l => .tuple (l.map .int)) = true
  | [] => rfl
  | x :: r => by
    simp only [List.map_cons, PyData.canLayAll0, canLay_tups r, PyData.canLay0, canLay_ints]; rfl
theorem depth_tups : ∀ L : List (List Int), PyData.depthAll (L.map fun l => .tuple (l.map .int)) ≤ 1
  | [] => Nat.zero_le _
  | x :: r => by
    simp only [List.map_cons, PyData.depthAll, PyData.depth, depth_ints]
    have := depth_tups r
    omega
theorem okD_ltups (L : List (List Int)) : okD (.list (L.map fun l => .tuple (l.map .int))) = true := okD_list (canLay_tups L) (Nat.le_trans (depth_tups L) (by decide))
theorem eqv_tups (a b : List Int) : PyData.eqv (.tuple (a.map .int)) (.tuple (b.map .int)) = decide (a = b) := by
  simp only [PyData.eqv, eqvAll_ints]
theorem eqD_tupI (a b : List Int) : eqD s (tupI a) (tupI b) = some (decide (a = b)) := by
  unfold eqD
  rw [toDS_tupI, toDS_tupI]
  simp only [okD_tints, Bool.and_self, if_true, eqv_tups]
@[simp] theorem eq_tupI {a b : List Int} : cop .eq (tupI a) (tupI b) s = some (decide (a = b)) := eqD_tupI a b
@[simp] theorem ne_tupI {a b : List Int} : cop .ne (tupI a) (tupI b) s = some (decide (a ≠ b)) := by
  show (eqD s (tupI a) (tupI b)).map not = _
  rw [eqD_tupI]
  by_cases h : a = b <;> simp [h]
@[simp] theorem ne_tup0 {a : List Int} : cop .ne (tupI a) (.tup []) s = some (decide (a ≠ [])) := ne_tupI (b := [])
@[simp] theorem eq_tup0 {a : List Int} : cop .eq (tupI a) (.tup []) s = some (decide (a = [])) := eq_tupI (b := [])
theorem eqD_ints (a b : List Int) : eqD s (.lst (a.map .int)) (.lst (b.map .int)) = some (decide (a = b)) := by
  have z : ∀ a : List Int, toDS s (.lst (a.map .int)) = some (.list (a.map .int)) := fun a => by
    show (toDs (a.map .int)).map PyData.list = _
    rw [toDs_ints]; rfl
  unfold eqD
  rw [z, z]
  simp only [okD_lints, Bool.and_self, if_true, PyData.eqv, eqvAll_ints]
@[simp] theorem eq_ints0 {a : List Int} : cop .eq (.lst (a.map .int)) (.lst []) s = some (decide (a = [])) := eqD_ints a []
@[simp] theorem ne_ints0 {a : List Int} : cop .ne (.lst (a.map .int)) (.lst []) s = some (decide (a ≠ [])) := by
  show (eqD s (.lst (a.map .int)) (.lst [])).map not = _
  have := eqD_ints (s := s) a []
  rw [List.map_nil] at this
  rw [this]
  by_cases h : a = [] <;> simp [h]
@[simp] theorem add_tupI1 {a : List Int} {x : Int} (h : a.length + 1 ≤ 16777216) : bop .add (tupI a) (.tup [.int x]) s = some (tupI (a ++ [x])) := by
  show (if szOk ((a.map PV.int).length + 1) then some (PV.tup (a.map PV.int ++ [.int x])) else none) = _
  rw [if_pos (szOk_of (by rw [List.length_map]; exact h))]
  simp [tupI]
theorem add_tupI2 {a : List Int} {x y : Int} (h : a.length + 2 ≤ 16777216) : bop .add (tupI a) (.tup [.int x, .int y]) s = some (tupI (a ++ [x, y])) := by
  show (if szOk ((a.map PV.int).length + 2) then some (PV.tup (a.map PV.int ++ [.int x, .int y])) else none) = _
  rw [if_pos (szOk_of (by rw [List.length_map]; exact h))]
  simp [tupI]
theorem sub_tupI {l : List Int} {i : Int} (h0 : 0 ≤ i) (h1 : i < l.length) : subG (tupI l) (.int i) s = some (.int (l[i.toNat]'(by omega))) := by
  show L2.atI (l.map PV.int) i = _
  rw [atI_in h0 (by rw [List.length_map]; exact h1)]
  simp
theorem sub_tupI_last {l : List Int} {x : Int} (h : l.getLast? = some x) : subG (tupI l) (.int (-1)) s = some (.int x) := by
  rcases List.eq_nil_or_concat l with e | ⟨q, y, e⟩
  · subst e; cases h
  · rw [List.concat_eq_append] at e
    subst e
    rw [List.getLast?_append] at h
    have h : y = x := Option.some.inj h
    subst h
    show L2.atI ((q ++ [y]).map PV.int) (-1) = _
    rw [List.map_append]
    exact atI_neg1
theorem inD_ints (x : Int) (l : List Int) : (PyData.eqv · (.int x)) = (PyData.eqv · (.int x)) := rfl
theorem any_ints (x : Int) : ∀ l : List Int, ((l.map PyData.int).any fun z => PyData.eqv z (.int x)) = decide (x ∈ l)
  | [] => rfl
  | y :: r => by
    rw [List.map_cons, List.any_cons, any_ints x r]
    simp only [PyData.eqv]
    by_cases h : y = x
    · subst h; simp
    · have h' : ¬ x = y := fun e => h e.symm
      simp [h, h']
theorem inD_of (x : Int) (l : List Int) (v : PV) (h : seqOf s v = some (l.map .int)) : inD s (.int x) v = some (decide (x ∈ l)) := by
  have z : toDS s (.int x) = some (.int x) := rfl
  unfold inD
  rw [z, h]
  simp only [Option.bind_some, toDs_ints]
  rw [okD_int, okD_lints, any_ints]
  rfl
@[simp] theorem in_tupI {x : Int} {l : List Int} : cop .isin (.int x) (tupI l) s = some (decide (x ∈ l)) := inD_of x l _ rfl
@[simp] theorem in_ints {x : Int} {l : List Int} : cop .isin (.int x) (.lst (l.map .int)) s = some (decide (x ∈ l)) := inD_of x l _ rfl
@[simp] theorem notin_tupI {x : Int} {l : List Int} : cop .notin (.int x) (tupI l) s = some (decide (x ∉ l)) := by
  show (inD s (.int x) (tupI l)).map not = _
  rw [inD_of x l _ rfl]
  by_cases h : x ∈ l <;> simp [h]
theorem any_tups (x : List Int) : ∀ L : List (List Int), ((L.map fun l => PyData.tuple (l.map .int)).any fun z => PyData.eqv z (.tuple (x.map .int))) = decide (x ∈ L)
  | [] => rfl
  | y :: r => by
    rw [List.map_cons, List.any_cons, any_tups x r, eqv_tups]
    by_cases h : y = x
    · subst h; simp
    · have h' : ¬ x = y := fun e => h e.symm
      simp [h, h']
@[simp] theorem in_tups {x : List Int} {L : List (List Int)} : cop .isin (tupI x) (.lst (L.map tupI)) s = some (decide (x ∈ L)) := by
  show inD s (tupI x) (.lst (L.map tupI)) = _
  unfold inD
  rw [toDS_tupI]
  simp only [seqOf_lst, Option.bind_some, toDs_tups]
  rw [okD_tints, okD_ltups, any_tups]
  rfl
theorem intsOf_ints : ∀ l : List Int, intsOf (l.map .int) = some l
  | [] => rfl
  | x :: r => by simp only [List.map_cons, intsOf, intsOf_ints r]; rfl
@[simp] theorem sorted_ints {l : List Int} : biF .sorted [.lst (l.map .int)] s = some (.lst ((sortI l).map .int)) := by
  show ((seqOf s (.lst (l.map .int))).bind intsOf).map _ = _
  simp only [seqOf_lst, Option.bind_some, intsOf_ints, Option.map_some]
@[simp] theorem sorted_tupI {l : List Int} : biF .sorted [tupI l] s = some (.lst ((sortI l).map .int)) := by
  show ((seqOf s (tupI l)).bind intsOf).map _ = _
  simp only [seqOf_tupI, Option.bind_some, intsOf_ints, Option.map_some]
theorem lset_tupI {l : List Int} (h : l.length + 1 < 4096) : lsetF (tupI l) s = some (.int (ddI l).length) := by
  show ((seqOf s (tupI l)).bind intsOf).bind _ = _
  simp only [seqOf_tupI, Option.bind_some, intsOf_ints, h, decide_true, if_true]
theorem all_bls : ∀ bs : List Bool, blsOf (bs.map .bl) = some bs
  | [] => rfl
  | x :: r => by simp only [List.map_cons, blsOf, all_bls r]; rfl
@[simp] theorem all_bl {bs : List Bool} : biF .all [.lst (bs.map .bl)] s = some (.bl (bs.all id)) := by
  show ((lstOf s (.lst (bs.map .bl))).bind fun xs => (blsOf xs).map fun bs => PV.bl (bs.all id)) = _
  simp only [lstOf_lst, Option.bind_some, all_bls, Option.map_some]
theorem rngV_eq (i j : Int) : rngV i j = (List.range (j - i).toNat).map fun k => PV.int (i + (k : Nat)) := rfl
theorem rngOk_of {i j : Int} (h1 : -(2 ^ 62) ≤ i) (h2 : i < 2 ^ 62) (h3 : -(2 ^ 62) ≤ j) (h4 : j < 2 ^ 62) : rngOk i j = true := decide_eq_true ⟨h1, h2, h3, h4⟩
theorem slc_tupI_to {l : List Int} {j : Nat} (h : j ≤ l.length) : slcG (tupI l) none (some (j : Int)) s = some (tupI (l.take j)) := by
  show some (PV.tup (cutP (l.map .int) none (some (j : Int)))) = _
  unfold cutP
  rw [HT.sIx_nat, HT.sIx_none, List.length_map]
  show some (PV.tup ((l.map PV.int).take (min j l.length))) = some (PV.tup ((l.take j).map PV.int))
  rw [Nat.min_eq_left h, List.map_take]
theorem slc_tupI_from {l : List Int} {j : Nat} (h : j ≤ l.length) : slcG (tupI l) (some (j : Int)) none s = some (tupI (l.drop j)) := by
  show some (PV.tup (cutP (l.map .int) (some (j : Int)) none)) = _
  unfold cutP
  rw [HT.sIx_nat, HT.sIx_none, List.length_map]
  show some (PV.tup (((l.map PV.int).drop (min j l.length)).take (l.length - min j l.length))) = some (PV.tup ((l.drop j).map PV.int))
  rw [Nat.min_eq_left h, ← List.map_drop, List.take_of_length_le]
  rw [List.length_map, List.length_drop]
  exact Nat.le_refl _
end
end Mini

set_option Elab.async false
set_option linter.all false
set_option maxRecDepth 100000
/-! MiniF: tables by the program and by the laws: what their defs compute. -/
namespace Mini
open PySem (Str PyData)
def f_is_whole : Fn := ⟨["value"], ["value"], .cons (.ret (.and (.isi (.var 0) .int) (.and (.not (.isi (.var 0) .bool)) (.chain .lt .lt (.neg (.op .pow (.int 10) (.int 18))) (.var 0) (.op .pow (.int 10) (.int 18)))))) .nil, false⟩
def f_is_number : Fn := ⟨["value", "least", "most"], ["value", "least", "most"], .cons (.ret (.and (.call "is_whole" (.cons (.var 0) .nil)) (.chain .le .le (.var 1) (.var 0) (.var 2)))) .nil, false⟩
def f_some_of : Fn := ⟨["several", "many"], ["several", "many", "found", "turn", "lot", "at"], .cons (.asg (.nm 2) (.lst false (.cons (.tup .nil) .nil))) (.cons (.forr (.nm 3) (.rng1 (.var 1)) (.cons (.asg (.nm 2) (.lc2 false (.op .add (.var 4) (.tup (.cons (.var 5) .nil))) (.nm 4) (.val (.var 2)) .nil (.nm 5) (.rng (.ite (.cmp .ne (.var 4) (.tup .nil)) (.op .add (.sub (.var 4) (.neg (.int 1))) (.int 1)) (.int 0)) (.var 0)) .nil [("lot", 4), ("at", 5)] [5])) .nil)) (.cons (.ret (.var 2)) .nil)), false⟩
def f_are_signs : Fn := ⟨["value", "many"], ["value", "many", "item"], .cons (.ret (.and (.isi (.var 0) .tuple) (.and (.cmp .eq (.bi .len (.cons (.var 0) .nil)) (.var 1)) (.bi .all (.cons (.lc false (.call "is_number" (.cons (.var 2) (.cons (.neg (.int 1)) (.cons (.int 1) .nil)))) (.nm 2) (.val (.var 0)) .nil [("item", 2)]) .nil))))) .nil, false⟩
def f_lots_of : Fn := ⟨["size", "many"], ["size", "many"], .cons (.ret (.call "some_of" (.cons (.var 0) (.cons (.var 1) .nil)))) .nil, false⟩
def f_need_shape : Fn := ⟨["size", "rank"], ["size", "rank"], .cons (.iff (.not (.call "is_number" (.cons (.var 0) (.cons (.int 0) (.cons (.gint "MOST_ELEMENTS" 9) .nil))))) (.cons (.rse "BadSize") .nil) .nil) (.cons (.iff (.not (.call "is_number" (.cons (.var 1) (.cons (.int 0) (.cons (.var 0) .nil))))) (.cons (.rse "BadRank") .nil) .nil) .nil), false⟩
def f_is_normal : Fn := ⟨["signs"], ["signs", "some", "sign"], .cons (.asg (.nm 1) (.lc false (.var 2) (.nm 2) (.val (.var 0)) (.cons (.cmp .ne (.var 2) (.int 0)) .nil) [("sign", 2)])) (.cons (.ret (.and (.cmp .ne (.var 1) (.lst false .nil)) (.cmp .eq (.sub (.var 1) (.int 0)) (.int 1)))) .nil), false⟩
def f_need_signs : Fn := ⟨["size", "rank", "signs"], ["size", "rank", "signs"], .cons (.iff (.or (.not (.call "are_signs" (.cons (.var 2) (.cons (.bi .len (.cons (.call "lots_of" (.cons (.var 0) (.cons (.var 1) .nil))) .nil)) .nil)))) (.not (.call "is_normal" (.cons (.var 2) .nil)))) (.cons (.rse "BadSigns") .nil) .nil) .nil, false⟩
def f_sorting_sign : Fn := ⟨["spots"], ["spots", "found", "at", "one", "other"], .cons (.asg (.nm 1) (.int 1)) (.cons (.forr (.tp (.cons (.nm 2) (.cons (.nm 3) .nil))) (.enum (.var 0)) (.cons (.forr (.nm 4) (.val (.slc (.var 0) .nil (.cons (.var 2) .nil))) (.cons (.iff (.cmp .eq (.var 4) (.var 3)) (.cons (.ret (.int 0)) .nil) .nil) (.cons (.asg (.nm 1) (.ite (.cmp .gt (.var 4) (.var 3)) (.neg (.var 1)) (.var 1))) .nil))) .nil)) (.cons (.ret (.var 1)) .nil)), false⟩
def f_sign_by : Fn := ⟨["known", "spots"], ["known", "spots", "turn"], .cons (.asg (.nm 2) (.call "sorting_sign" (.cons (.var 1) .nil))) (.cons (.ret (.ite (.cmp .eq (.var 2) (.int 0)) (.int 0) (.op .mul (.var 2) (.sub (.var 0) (.bi .tuple (.cons (.bi .sorted (.cons (.var 1) .nil)) .nil)))))) .nil), false⟩
def f_broken_bases : Fn := ⟨["lots", "known"], ["lots", "known", "bases", "one", "other", "gone", "left", "some", "lot", "element", "more"], .cons (.asg (.nm 2) (.lc false (.var 8) (.nm 8) (.val (.var 0)) (.cons (.cmp .ne (.sub (.var 1) (.var 8)) (.int 0)) .nil) [("lot", 8)])) (.cons (.forr (.nm 3) (.val (.var 2)) (.cons (.forr (.nm 4) (.val (.var 2)) (.cons (.forr (.nm 5) (.val (.var 3)) (.cons (.iff (.cmp .notin (.var 5) (.var 4)) (.cons (.asg (.nm 6) (.lc false (.var 9) (.nm 9) (.val (.var 3)) (.cons (.cmp .ne (.var 9) (.var 5)) .nil) [("element", 9)])) (.cons (.asg (.nm 7) (.lc false (.var 10) (.nm 10) (.val (.var 4)) (.cons (.and (.cmp .notin (.var 10) (.var 3)) (.cmp .ne (.sub (.var 1) (.bi .tuple (.cons (.bi .sorted (.cons (.op .add (.var 6) (.lst false (.cons (.var 10) .nil))) .nil)) .nil))) (.int 0))) .nil) [("more", 10)])) (.cons (.iff (.cmp .eq (.var 7) (.lst false .nil)) (.cons (.ret (.tup (.cons (.str "bases") (.cons (.var 3) (.cons (.var 4) (.cons (.var 5) .nil)))))) .nil) .nil) .nil))) .nil) .nil)) .nil)) .nil)) (.cons (.ret .non) .nil)), false⟩
def f_three_products : Fn := ⟨["known", "common", "four"], ["known", "common", "four", "a", "b", "c", "d", "one", "other", "third"], .cons (.asg (.tp (.cons (.nm 3) (.cons (.nm 4) (.cons (.nm 5) (.cons (.nm 6) .nil))))) (.var 2)) (.cons (.asg (.nm 7) (.op .mul (.call "sign_by" (.cons (.var 0) (.cons (.op .add (.var 1) (.tup (.cons (.var 3) (.cons (.var 4) .nil)))) .nil))) (.call "sign_by" (.cons (.var 0) (.cons (.op .add (.var 1) (.tup (.cons (.var 5) (.cons (.var 6) .nil)))) .nil))))) (.cons (.asg (.nm 8) (.op .mul (.call "sign_by" (.cons (.var 0) (.cons (.op .add (.var 1) (.tup (.cons (.var 3) (.cons (.var 5) .nil)))) .nil))) (.call "sign_by" (.cons (.var 0) (.cons (.op .add (.var 1) (.tup (.cons (.var 4) (.cons (.var 6) .nil)))) .nil))))) (.cons (.asg (.nm 9) (.op .mul (.call "sign_by" (.cons (.var 0) (.cons (.op .add (.var 1) (.tup (.cons (.var 3) (.cons (.var 6) .nil)))) .nil))) (.call "sign_by" (.cons (.var 0) (.cons (.op .add (.var 1) (.tup (.cons (.var 4) (.cons (.var 5) .nil)))) .nil))))) (.cons (.ret (.lst false (.cons (.var 7) (.cons (.neg (.var 8)) (.cons (.var 9) .nil))))) .nil)))), false⟩
def f_broken_threes : Fn := ⟨["size", "rank", "known"], ["size", "rank", "known", "common", "rest", "spots", "four", "products", "element", "spot"], .cons (.forr (.nm 3) (.val (.ite (.cmp .gt (.var 1) (.int 1)) (.call "lots_of" (.cons (.var 0) (.cons (.op .sub (.var 1) (.int 2)) .nil))) (.lst false .nil))) (.cons (.asg (.nm 4) (.lc false (.var 8) (.nm 8) (.rng1 (.var 0)) (.cons (.cmp .notin (.var 8) (.var 3)) .nil) [("element", 8)])) (.cons (.forr (.nm 5) (.val (.call "lots_of" (.cons (.bi .len (.cons (.var 4) .nil)) (.cons (.int 4) .nil)))) (.cons (.asg (.nm 6) (.bi .tuple (.cons (.lc false (.sub (.var 4) (.var 9)) (.nm 9) (.val (.var 5)) .nil [("spot", 9)]) .nil))) (.cons (.asg (.nm 7) (.call "three_products" (.cons (.var 2) (.cons (.var 3) (.cons (.var 6) .nil))))) (.cons (.iff (.cmp .ne (.cmp .isin (.int 1) (.var 7)) (.cmp .isin (.neg (.int 1)) (.var 7))) (.cons (.ret (.tup (.cons (.str "three") (.cons (.var 3) (.cons (.var 6) .nil))))) .nil) .nil) .nil)))) .nil))) (.cons (.ret .non) .nil), false⟩
def f_broken_at : Fn := ⟨["size", "rank", "signs"], ["size", "rank", "signs", "lots", "known", "found"], .cons (.asg (.nm 3) (.call "lots_of" (.cons (.var 0) (.cons (.var 1) .nil)))) (.cons (.asg (.nm 4) (.dzip false (.var 3) (.var 2))) (.cons (.asg (.nm 5) (.call "broken_bases" (.cons (.var 3) (.cons (.var 4) .nil)))) (.cons (.ret (.ite (.cmp .isnot (.var 5) .non) (.var 5) (.call "broken_threes" (.cons (.var 0) (.cons (.var 1) (.cons (.var 4) .nil)))))) .nil))), false⟩
def f_first_broken : Fn := ⟨["size", "rank", "signs"], ["size", "rank", "signs"], .cons (.ex (.call "need_shape" (.cons (.var 0) (.cons (.var 1) .nil)))) (.cons (.ex (.call "need_signs" (.cons (.var 0) (.cons (.var 1) (.cons (.var 2) .nil))))) (.cons (.ret (.call "broken_at" (.cons (.var 0) (.cons (.var 1) (.cons (.var 2) .nil))))) .nil)), false⟩
def f__law_tg_lots : Fn := ⟨["size", "many"], ["size", "many", "found", "turn", "longer", "lot", "at"], .cons (.asg (.nm 2) (.lst false (.cons (.tup .nil) .nil))) (.cons (.forr (.nm 3) (.rng1 (.var 1)) (.cons (.asg (.nm 4) (.lst false .nil)) (.cons (.forr (.nm 5) (.val (.var 2)) (.cons (.asg (.nm 4) (.op .add (.var 4) (.lc false (.op .add (.var 5) (.tup (.cons (.var 6) .nil))) (.nm 6) (.rng (.ite (.cmp .ne (.var 5) (.tup .nil)) (.op .add (.sub (.var 5) (.neg (.int 1))) (.int 1)) (.int 0)) (.var 0)) .nil [("at", 6)]))) .nil)) (.cons (.asg (.nm 2) (.var 4)) .nil)))) (.cons (.ret (.var 2)) .nil)), false⟩
def f__law_tg_sorting : Fn := ⟨["spots"], ["spots", "found", "at", "later"], .cons (.iff (.cmp .lt (.lset (.var 0)) (.bi .len (.cons (.var 0) .nil))) (.cons (.ret (.int 0)) .nil) .nil) (.cons (.asg (.nm 1) (.int 1)) (.cons (.forr (.nm 2) (.rng1 (.bi .len (.cons (.var 0) .nil))) (.cons (.forr (.nm 3) (.rng (.op .add (.var 2) (.int 1)) (.bi .len (.cons (.var 0) .nil))) (.cons (.asg (.nm 1) (.ite (.cmp .gt (.sub (.var 0) (.var 2)) (.sub (.var 0) (.var 3))) (.neg (.var 1)) (.var 1))) .nil)) .nil)) (.cons (.ret (.var 1)) .nil))), false⟩
def f__law_tg_sign : Fn := ⟨["known", "spots"], ["known", "spots", "turn"], .cons (.asg (.nm 2) (.call "_law_tg_sorting" (.cons (.var 1) .nil))) (.cons (.ret (.ite (.cmp .eq (.var 2) (.int 0)) (.int 0) (.op .mul (.var 2) (.sub (.var 0) (.bi .tuple (.cons (.bi .sorted (.cons (.var 1) .nil)) .nil)))))) .nil), false⟩
def f__law_tg_normal : Fn := ⟨["signs"], ["signs", "some", "sign"], .cons (.asg (.nm 1) (.lc false (.var 2) (.nm 2) (.val (.var 0)) (.cons (.cmp .ne (.var 2) (.int 0)) .nil) [("sign", 2)])) (.cons (.ret (.ite (.and (.cmp .ne (.var 1) (.lst false .nil)) (.cmp .eq (.sub (.var 1) (.int 0)) (.neg (.int 1)))) (.bi .tuple (.cons (.lc false (.neg (.var 2)) (.nm 2) (.val (.var 0)) .nil [("sign", 2)]) .nil)) (.bi .tuple (.cons (.var 0) .nil)))) .nil), false⟩
def f__law_tg_broken : Fn := ⟨["size", "rank", "signs"], ["size", "rank", "signs", "lots", "known", "bases", "one", "other", "gone", "left", "common", "rest", "a", "b", "c", "d", "products", "turn", "pair", "lot", "element", "more", "spot", "spots"], .cons (.asg (.nm 3) (.call "_law_tg_lots" (.cons (.var 0) (.cons (.var 1) .nil)))) (.cons (.asg (.nm 4) (.dzip false (.var 3) (.var 2))) (.cons (.asg (.nm 5) (.lc false (.var 19) (.nm 19) (.val (.var 3)) (.cons (.cmp .ne (.sub (.var 4) (.var 19)) (.int 0)) .nil) [("lot", 19)])) (.cons (.forr (.nm 6) (.val (.var 5)) (.cons (.forr (.nm 7) (.val (.var 5)) (.cons (.forr (.nm 8) (.val (.lc false (.var 20) (.nm 20) (.val (.var 6)) (.cons (.cmp .notin (.var 20) (.var 7)) .nil) [("element", 20)])) (.cons (.asg (.nm 9) (.lc false (.var 20) (.nm 20) (.val (.var 6)) (.cons (.cmp .ne (.var 20) (.var 8)) .nil) [("element", 20)])) (.cons (.iff (.cmp .eq (.lc false (.int 1) (.nm 21) (.val (.var 7)) (.cons (.and (.cmp .notin (.var 21) (.var 6)) (.cmp .ne (.sub (.var 4) (.bi .tuple (.cons (.bi .sorted (.cons (.op .add (.var 9) (.lst false (.cons (.var 21) .nil))) .nil)) .nil))) (.int 0))) .nil) [("more", 21)]) (.lst false .nil)) (.cons (.ret (.tup (.cons (.str "bases") (.cons (.var 6) (.cons (.var 7) (.cons (.var 8) .nil)))))) .nil) .nil) .nil))) .nil)) .nil)) (.cons (.forr (.nm 10) (.val (.ite (.cmp .ge (.var 1) (.int 2)) (.call "_law_tg_lots" (.cons (.var 0) (.cons (.op .sub (.var 1) (.int 2)) .nil))) (.lst false .nil))) (.cons (.asg (.nm 11) (.lc false (.var 20) (.nm 20) (.rng1 (.var 0)) (.cons (.cmp .notin (.var 20) (.var 10)) .nil) [("element", 20)])) (.cons (.forr (.tp (.cons (.nm 12) (.cons (.nm 13) (.cons (.nm 14) (.cons (.nm 15) .nil))))) (.val (.lc false (.bi .tuple (.cons (.lc false (.sub (.var 11) (.var 22)) (.nm 22) (.val (.var 23)) .nil [("spot", 22)]) .nil)) (.nm 23) (.val (.call "_law_tg_lots" (.cons (.bi .len (.cons (.var 11) .nil)) (.cons (.int 4) .nil)))) .nil [("spots", 23)])) (.cons (.asg (.nm 16) (.lst true .nil)) (.cons (.forr (.tp (.cons (.nm 17) (.cons (.nm 18) (.cons (.nm 7) .nil)))) (.val (.lst false (.cons (.tup (.cons (.int 1) (.cons (.tup (.cons (.var 12) (.cons (.var 13) .nil))) (.cons (.tup (.cons (.var 14) (.cons (.var 15) .nil))) .nil)))) (.cons (.tup (.cons (.neg (.int 1)) (.cons (.tup (.cons (.var 12) (.cons (.var 14) .nil))) (.cons (.tup (.cons (.var 13) (.cons (.var 15) .nil))) .nil)))) (.cons (.tup (.cons (.int 1) (.cons (.tup (.cons (.var 12) (.cons (.var 15) .nil))) (.cons (.tup (.cons (.var 13) (.cons (.var 14) .nil))) .nil)))) .nil))))) (.cons (.ex (.meth .append (.var 16) (.cons (.op .mul (.op .mul (.var 17) (.call "_law_tg_sign" (.cons (.var 4) (.cons (.op .add (.var 10) (.var 18)) .nil)))) (.call "_law_tg_sign" (.cons (.var 4) (.cons (.op .add (.var 10) (.var 7)) .nil)))) .nil))) .nil)) (.cons (.iff (.cmp .isin (.sset (.var 16)) (.lst false (.cons (.lst false (.cons (.int 1) .nil)) (.cons (.lst false (.cons (.neg (.int 1)) .nil)) (.cons (.lst false (.cons (.int 0) (.cons (.int 1) .nil))) (.cons (.lst false (.cons (.neg (.int 1)) (.cons (.int 0) .nil))) .nil)))))) (.cons (.ret (.tup (.cons (.str "three") (.cons (.var 10) (.cons (.tup (.cons (.var 12) (.cons (.var 13) (.cons (.var 14) (.cons (.var 15) .nil))))) .nil))))) .nil) .nil) .nil)))) .nil))) (.cons (.ret .non) .nil))))), true⟩
structure ChecksT (T : Str → Option Fn) : Prop where
  whole : T "is_whole" = some f_is_whole
  number : T "is_number" = some f_is_number
structure SomeT (T : Str → Option Fn) : Prop where
  some_of : T "some_of" = some f_some_of
structure TabT (T : Str → Option Fn) : Prop extends ChecksT T, SomeT T where
  signs : T "are_signs" = some f_are_signs
  lots : T "lots_of" = some f_lots_of
  shape : T "need_shape" = some f_need_shape
  normal : T "is_normal" = some f_is_normal
  nsigns : T "need_signs" = some f_need_signs
  sorting : T "sorting_sign" = some f_sorting_sign
  sign_by : T "sign_by" = some f_sign_by
  bbases : T "broken_bases" = some f_broken_bases
  three : T "three_products" = some f_three_products
  bthrees : T "broken_threes" = some f_broken_threes
  broken : T "broken_at" = some f_broken_at
  first : T "first_broken" = some f_first_broken
structure LotsT (T : Str → Option Fn) : Prop where
  lots : T "_law_tg_lots" = some f__law_tg_lots
structure TgT (T : Str → Option Fn) : Prop extends LotsT T where
  sorting : T "_law_tg_sorting" = some f__law_tg_sorting
  sign : T "_law_tg_sign" = some f__law_tg_sign
  normal : T "_law_tg_normal" = some f__law_tg_normal
  broken : T "_law_tg_broken" = some f__law_tg_broken
variable {T : Str → Option Fn} {n : Nat} {s : Store}
def big : Int := 1000000000000000000
theorem isi_int {i : Int} : isiF .int (.int i) s = some (.bl true) := rfl
theorem isi_intb {i : Int} : isiF .bool (.int i) s = some (.bl false) := rfl
theorem isi_tupI {l : List Int} : isiF .tuple (tupI l) s = some (.bl true) := rfl
theorem pow18 : bop .pow (.int 10) (.int 18) s = some (.int 1000000000000000000) := rfl
theorem is_whole_ok (hT : ChecksT T) {i : Int} (h1 : -big < i) (h2 : i < big) : run T (n + 1) "is_whole" [.int i] s = .ok (.bl true) s := by
  rw [run_mk hT.whole rfl]
  have h1 : -1000000000000000000 < i := h1
  have h2 : i < 1000000000000000000 := h2
  simp [start, isi_int, isi_intb, pow18, h1, h2]
theorem is_number_ok (hT : ChecksT T) {i a b : Int} (h1 : -big < i) (h2 : i < big) : run T (n + 2) "is_number" [.int i, .int a, .int b] s = .ok (.bl (decide (a ≤ i ∧ i ≤ b))) s := by
  rw [run_mk hT.number rfl]
  by_cases h : a ≤ i <;> simp [start, is_whole_ok hT h1 h2, h]
theorem compGo_emp {wt : List (Nat × List PV)} {bind : PV → M Env} {test : Env → M Bool} {el : Env → M (List PV)} : compGo [] bind test el [] s = .ok [] s := by simp only [compGo, stays_nil, if_true]
/-- a range's items -/
def rgN (i j : Int) : List Int := (List.range (j - i).toNat).map fun k => i + (k : Nat)
theorem rngV_rgN (i j : Int) : rngV i j = (rgN i j).map .int := by
  unfold rngV rgN
  rw [List.map_map]
  rfl
theorem mem_rgN {i j x : Int} : x ∈ rgN i j ↔ i ≤ x ∧ x < j := by
  unfold rgN
  rw [List.mem_map]
  constructor
  · rintro ⟨k, hk, e⟩
    have := List.mem_range.mp hk
    omega
  · rintro ⟨h1, h2⟩
    exact ⟨(x - i).toNat, List.mem_range.mpr (by omega), by omega⟩
theorem rgN_length (i j : Int) : (rgN i j).length = (j - i).toNat := by unfold rgN; rw [List.length_map, List.length_range]
theorem lotNext_rgN (size : Int) (lot : List Int) : lotNext size lot = (rgN (lotFrom lot) size).map fun x => lot ++ [x] := by
  unfold lotNext rgN
  rw [List.map_map]
  rfl
theorem evIt_rng1_of {Φ : Str → List PV → M PV} {b : E} {ρ : Env} {j : Int} (h : evE Φ b ρ s = .ok (.int j) s) (h0 : -(2 ^ 62) ≤ j) (h1 : j < 2 ^ 62) : evIt Φ (.rng1 b) ρ s = .ok ((rgN 0 j).map .int, []) s := by
  rw [evIt_rng1, h]
  simp only [bR_ok, intV_int, oR_some]
  rw [if_pos (rngOk_of (by decide) (by decide) h0 h1), rngV_rgN]
theorem evIt_rng_of {Φ : Str → List PV → M PV} {a b : E} {ρ : Env} {i j : Int} (h : evE Φ a ρ s = .ok (.int i) s) (h' : evE Φ b ρ s = .ok (.int j) s) (h2 : -(2 ^ 62) ≤ i) (h3 : i < 2 ^ 62) (h0 : -(2 ^ 62) ≤ j) (h1 : j < 2 ^ 62) : evIt Φ (.rng a b) ρ s = .ok ((rgN i j).map .int, []) s := by
  rw [evIt_rng, h]
  simp only [bR_ok, h', intV_int, oR_some]
  rw [if_pos (rngOk_of h2 h3 h0 h1), rngV_rgN]
/-- the inner comprehension: all that are one longer than a tuple -/
theorem next_inner {Φ : Str → List PV → M PV} {ρ : Env} {tg : Tg} {i j : Nat} (lot : List Int) (size : Int) (hl : lot.length + 1 ≤ 16777216)
    (hb : ∀ x : Int, ∃ ρ1, evTg Φ tg (.int x) ρ s = .ok ρ1 s ∧ ρ1[i]?.join = some (tupI lot) ∧ ρ1[j]?.join = some (.int x)) :
    compGo [] (fun x => evTg Φ tg x ρ) (evIf Φ .nil) (fun ρ => (evE Φ (.op .add (.var i) (.tup (.cons (.var j) .nil))) ρ).bnd fun y => M.ret [y]) (rngV (lotFrom lot) size) s = .ok ((lotNext size lot).map tupI) s := by
  rw [rngV_rgN, lotNext_rgN, List.map_map]
  refine compGo_map (enc := PV.int) (fun x => tupI (lot ++ [x])) rfl _ fun x hx => ?_
  obtain ⟨ρ1, e, e1, e2⟩ := hb x
  exact ⟨ρ1, e, by simp, by simp [e1, e2, add_tupI1 hl]⟩
theorem fromE {Φ : Str → List PV → M PV} {ρ : Env} {i : Nat} {lot : List Int} (h : ρ[i]?.join = some (tupI lot)) : evE Φ (.ite (.cmp .ne (.var i) (.tup .nil)) (.op .add (.sub (.var i) (.neg (.int 1))) (.int 1)) (.int 0)) ρ s = .ok (.int (lotFrom lot)) s := by
  rcases List.eq_nil_or_concat lot with e | ⟨q, x, e⟩
  · subst e; simp [h, lotFrom_nil]
  · rw [List.concat_eq_append] at e
    subst e
    simp [h, lotFrom_snoc, sub_tupI_last (l := q ++ [x]) (x := x) (by rw [List.getLast?_append]; rfl)]
theorem lot_len {size : Int} {k : Nat} {l : List Int} (h : l ∈ lotsN size k) : l.length = k := (mem_lots.mp h).1
theorem lot_from {size : Int} {k : Nat} {l : List Int} (h : l ∈ lotsN size k) (h0 : 0 ≤ size) : 0 ≤ lotFrom l ∧ lotFrom l ≤ size := by
  have h := mem_lots.mp h
  refine ⟨from_nonneg fun y hy => (h.2.2 y hy).1, ?_⟩
  rcases List.eq_nil_or_concat l with e | ⟨q, x, e⟩
  · subst e; exact h0
  · rw [List.concat_eq_append] at e
    subst e
    rw [lotFrom_snoc]
    have := h.2.2 x (List.mem_append_right _ (List.mem_singleton_self x)); omega
theorem tupI_nil : tupI [] = .tup [] := rfl
theorem some_of_C {size : Int} {many : Nat} (h0 : 0 ≤ size) (h1 : size < 1000) (hm : many < 1000) : ∀ (k : Nat) (ρ3 ρ4 ρ5 : Option PV), k < many → compGo [] (fun x => evTg (run T n) (.nm 4) x (wipe [some (.int size), some (.int many), some (.lst ((lotsN size k).map tupI)), ρ3, ρ4, ρ5] [4, 5])) (evIf (run T n) .nil)
        (fun ρ => (evIt (run T n) (.rng (.ite (.cmp .ne (.var 4) (.tup .nil)) (.op .add (.sub (.var 4) (.neg (.int 1))) (.int 1)) (.int 0)) (.var 0)) ρ).bnd fun w2 => fun s => compGo w2.2 (fun x => evTg (run T n) (.nm 5) x (wipe ρ [5])) (evIf (run T n) .nil) (fun ρ => (evE (run T n) (.op .add (.var 4) (.tup (.cons (.var 5) .nil))) ρ).bnd fun y => M.ret [y]) w2.1 s)
        ((lotsN size k).map tupI) s = .ok ((lotsN size (k + 1)).map tupI) s := fun k ρ3 ρ4 ρ5 hk => by
    have en : (lotsN size k).flatMap (fun lot => (lotNext size lot).map tupI) = (lotsN size (k + 1)).map tupI := by
      show _ = ((lotsN size k).flatMap (lotNext size)).map tupI
      rw [List.map_flatMap]
    rw [← en]
    refine compGo_pure (enc := tupI) (fun lot => (lotNext size lot).map tupI) rfl (lotsN size k) fun lot hlot => ?_
    refine ⟨[some (.int size), some (.int many), some (.lst ((lotsN size k).map tupI)), ρ3, some (tupI lot), none], by simp [wipe], .inl ⟨by simp, ?_⟩⟩
    have hl := lot_len hlot
    have hf := lot_from hlot h0
    rw [bnd_eq, evIt_rng, fromE (lot := lot) rfl]
    simp only [bR_ok, intV_int, oR_some, evE_var]
    simp only [List.getElem?_cons_zero, Option.join_some, oR_some, bR_ok, intV_int, rngOk_of (i := lotFrom lot) (j := size) (by omega) (by omega) (by omega) (by omega), if_true]
    exact next_inner lot size (by omega) fun y => ⟨[some (.int size), some (.int many), some (.lst ((lotsN size k).map tupI)), ρ3, some (tupI lot), some (.int y)], by simp [wipe], rfl, rfl⟩
theorem some_of_ok (hT : SomeT T) {size : Int} {many : Nat} (h0 : 0 ≤ size) (h1 : size < 1000) (hm : many < 1000) (hb : ∀ k, k ≤ many → (lotsN size k).length ≤ 16777216) : run T (n + 1) "some_of" [.int size, .int many] s = .ok (.lst ((lotsN size many).map tupI)) s := by
  rw [run_mk hT.some_of rfl]
  have C := @some_of_C T n s size many h0 h1 hm
  have L := forGo_inv (X := Int) (enc := PV.int) (wt := []) (bind := fun x ρ => evTg (run T n) (.nm 3) x ρ) (body := exSs (run T n) (.cons (.asg (.nm 2) (.lc2 false (.op .add (.var 4) (.tup (.cons (.var 5) .nil))) (.nm 4) (.val (.var 2)) .nil (.nm 5) (.rng (.ite (.cmp .ne (.var 4) (.tup .nil)) (.op .add (.sub (.var 4) (.neg (.int 1))) (.int 1)) (.int 0)) (.var 0)) .nil [("lot", 4), ("at", 5)] [5])) .nil))
    (fun r ρ s' => s' = s ∧ r.length ≤ many ∧ ∃ ρ3 ρ4 ρ5, ρ = [some (.int size), some (.int many), some (.lst ((lotsN size (many - r.length)).map tupI)), ρ3, ρ4, ρ5]) (fun _ _ _ _ => rfl)
    (fun x r ρ s' ⟨es, hr, ρ3, ρ4, ρ5, e⟩ => by
      subst es e
      rw [List.length_cons] at hr
      have C1 := C (many - (r.length + 1)) (some (.int x)) ρ4 ρ5 (by omega)
      have : many - (r.length + 1) + 1 = many - r.length := by omega
      rw [this] at C1
      refine ⟨_, s', by simp; rfl, ?_⟩
      refine ⟨[some (.int size), some (.int many), some (.lst ((lotsN size (many - r.length)).map tupI)), some (.int x), ρ4, ρ5], s', .inl ?_, rfl, by omega, _, _, _, rfl⟩
      have hsz : ((lotsN size (many - r.length)).map tupI).length ≤ 16777216 := by rw [List.length_map]; exact hb _ (by omega)
      simp [C1, mkLst_f hsz])
    (rgN 0 many) [some (.int size), some (.int many), some (.lst [.tup []]), none, none, none] s ⟨rfl, by rw [rgN_length]; omega, none, none, none, by rw [rgN_length]; simp [lotsN, tupI]⟩
  obtain ⟨ρ', s', e, e1, _, ρ3, ρ4, ρ5, e2⟩ := L
  subst e1 e2
  have m1 : ∀ s, mkLst false [PV.tup []] s = .ok (.lst [.tup []]) s := fun s => mkLst_f (vs := [PV.tup []]) (by simp)
  have m2 := evIt_rng1_of (Φ := run T n) (b := .var 1) (ρ := [some (.int size), some (.int many), some (.lst [.tup []]), none, none, none]) (s := s') (j := (many : Int)) rfl (by omega) (by omega)
  simp [-evIt_rng1, start, m1, e, m2]
theorem addL_lst {xs ys : List PV} (h : xs.length + ys.length ≤ 16777216) : bop .add (.lst xs) (.lst ys) s = some (.lst (xs ++ ys)) := by
  show (if szOk (xs.length + ys.length) then some (PV.lst (xs ++ ys)) else none) = _
  rw [if_pos (szOk_of h)]
theorem tg_lots_ok (hT : LotsT T) {size : Int} {many : Nat} (h0 : 0 ≤ size) (h1 : size < 1000) (hm : many < 1000) (hb : ∀ k, k ≤ many → (lotsN size k).length ≤ 16777216) : run T (n + 1) "_law_tg_lots" [.int size, .int many] s = .ok (.lst ((lotsN size many).map tupI)) s := by
  rw [run_mk hT.lots rfl]
  have I : ∀ (k : Nat) (ρ3 ρ6 : Option PV) (ρ5 : Option PV), k < many → ∃ ρ5' ρ6', forGo [] (fun x ρ => evTg (run T n) (.nm 5) x ρ) (exSs (run T n) (.cons (.asg (.nm 4) (.op .add (.var 4) (.lc false (.op .add (.var 5) (.tup (.cons (.var 6) .nil))) (.nm 6) (.rng (.ite (.cmp .ne (.var 5) (.tup .nil)) (.op .add (.sub (.var 5) (.neg (.int 1))) (.int 1)) (.int 0)) (.var 0)) .nil [("at", 6)]))) .nil))
      ((lotsN size k).map tupI) [some (.int size), some (.int many), some (.lst ((lotsN size k).map tupI)), ρ3, some (.lst []), ρ5, ρ6] s = .ok (.nx [some (.int size), some (.int many), some (.lst ((lotsN size k).map tupI)), ρ3, some (.lst ((lotsN size (k + 1)).map tupI)), ρ5', ρ6']) s := fun k ρ3 ρ6 ρ5 hk => by
    obtain ⟨ρ', s', e, e1, done, hd, _, ρ5', ρ6', e2⟩ := forGo_inv (X := List Int) (enc := tupI) (wt := []) (bind := fun x ρ => evTg (run T n) (.nm 5) x ρ) (body := exSs (run T n) (.cons (.asg (.nm 4) (.op .add (.var 4) (.lc false (.op .add (.var 5) (.tup (.cons (.var 6) .nil))) (.nm 6) (.rng (.ite (.cmp .ne (.var 5) (.tup .nil)) (.op .add (.sub (.var 5) (.neg (.int 1))) (.int 1)) (.int 0)) (.var 0)) .nil [("at", 6)]))) .nil))
      (fun r ρ s' => s' = s ∧ ∃ done, done ++ r.flatMap (lotNext size) = lotsN size (k + 1) ∧ (∀ x ∈ r, x ∈ lotsN size k) ∧ ∃ ρ5 ρ6, ρ = [some (.int size), some (.int many), some (.lst ((lotsN size k).map tupI)), ρ3, some (.lst (done.map tupI)), ρ5, ρ6]) (fun _ _ _ _ => rfl)
      (fun lot r ρ s' ⟨es, done, hd, hin, ρ5, ρ6, e⟩ => by
        subst es e
        have hlot := hin lot (List.mem_cons_self ..)
        have hl := lot_len hlot
        have hf := lot_from hlot h0
        refine ⟨[some (.int size), some (.int many), some (.lst ((lotsN size k).map tupI)), ρ3, some (.lst (done.map tupI)), some (tupI lot), ρ6], s', by simp, ?_⟩
        have w := evIt_rng_of (Φ := run T n) (s := s') (ρ := [some (.int size), some (.int many), some (.lst ((lotsN size k).map tupI)), ρ3, some (.lst (done.map tupI)), some (tupI lot), ρ6]) (fromE (i := 5) (lot := lot) rfl) (b := .var 0) (j := size) (by simp) (by omega) (by omega) (by omega) (by omega)
        have C := next_inner (s := s') (Φ := run T n) (ρ := [some (.int size), some (.int many), some (.lst ((lotsN size k).map tupI)), ρ3, some (.lst (done.map tupI)), some (tupI lot), none]) (tg := .nm 6) (i := 5) (j := 6) lot size (by omega) fun y => ⟨[some (.int size), some (.int many), some (.lst ((lotsN size k).map tupI)), ρ3, some (.lst (done.map tupI)), some (tupI lot), some (.int y)], by simp, rfl, rfl⟩
        rw [rngV_rgN] at C
        rw [List.flatMap_cons] at hd
        have hlen : done.length + (lotNext size lot).length ≤ 16777216 := by
          have h2 := hb (k + 1) (by omega)
          rw [← hd, List.length_append, List.length_append] at h2
          omega
        have A := addL_lst (s := s') (xs := done.map tupI) (ys := (lotNext size lot).map tupI) (by rw [List.length_map, List.length_map]; exact hlen)
        have M := mkLst_f (s := s') (vs := (lotNext size lot).map tupI) (by rw [List.length_map]; omega)
        refine ⟨[some (.int size), some (.int many), some (.lst ((lotsN size k).map tupI)), ρ3, some (.lst ((done ++ lotNext size lot).map tupI)), some (tupI lot), ρ6], s', .inl ?_, rfl, done ++ lotNext size lot, by rw [← hd, List.append_assoc], fun x hx => hin x (List.mem_cons_of_mem _ hx), _, _, rfl⟩
        simp [-evIt_rng, -evE_ite, w, wipe, C, M, A])
      (lotsN size k) [some (.int size), some (.int many), some (.lst ((lotsN size k).map tupI)), ρ3, some (.lst []), ρ5, ρ6] s ⟨rfl, [], rfl, fun x hx => hx, _, _, rfl⟩
    subst e1 e2
    rw [List.flatMap_nil, List.append_nil] at hd
    subst hd
    exact ⟨_, _, e⟩
  obtain ⟨ρ', s', e, e1, _, ρ3, ρ4, ρ5, ρ6, e2⟩ := forGo_inv (X := Int) (enc := PV.int) (wt := []) (bind := fun x ρ => evTg (run T n) (.nm 3) x ρ) (body := exSs (run T n) (.cons (.asg (.nm 4) (.lst false .nil)) (.cons (.forr (.nm 5) (.val (.var 2)) (.cons (.asg (.nm 4) (.op .add (.var 4) (.lc false (.op .add (.var 5) (.tup (.cons (.var 6) .nil))) (.nm 6) (.rng (.ite (.cmp .ne (.var 5) (.tup .nil)) (.op .add (.sub (.var 5) (.neg (.int 1))) (.int 1)) (.int 0)) (.var 0)) .nil [("at", 6)]))) .nil)) (.cons (.asg (.nm 2) (.var 4)) .nil))))
    (fun r ρ s' => s' = s ∧ r.length ≤ many ∧ ∃ ρ3 ρ4 ρ5 ρ6, ρ = [some (.int size), some (.int many), some (.lst ((lotsN size (many - r.length)).map tupI)), ρ3, ρ4, ρ5, ρ6]) (fun _ _ _ _ => rfl)
    (fun x r ρ s' ⟨es, hr, ρ3, ρ4, ρ5, ρ6, e⟩ => by
      subst es e
      rw [List.length_cons] at hr
      obtain ⟨ρ5', ρ6', I1⟩ := I (many - (r.length + 1)) (some (.int x)) ρ6 ρ5 (by omega)
      have : many - (r.length + 1) + 1 = many - r.length := by omega
      rw [this] at I1
      refine ⟨_, s', by simp; rfl, ?_⟩
      refine ⟨[some (.int size), some (.int many), some (.lst ((lotsN size (many - r.length)).map tupI)), some (.int x), some (.lst ((lotsN size (many - r.length)).map tupI)), ρ5', ρ6'], s', .inl ?_, rfl, by omega, _, _, _, _, rfl⟩
      simp [-evE_ite, I1])
    (rgN 0 many) [some (.int size), some (.int many), some (.lst [.tup []]), none, none, none, none] s ⟨rfl, by rw [rgN_length]; omega, none, none, none, none, by rw [rgN_length]; simp [lotsN, tupI]⟩
  subst e1 e2
  have m1 : ∀ s, mkLst false [PV.tup []] s = .ok (.lst [.tup []]) s := fun s => mkLst_f (vs := [PV.tup []]) (by simp)
  have m2 := evIt_rng1_of (Φ := run T n) (b := .var 1) (ρ := [some (.int size), some (.int many), some (.lst [.tup []]), none, none, none, none]) (s := s') (j := (many : Int)) (by simp) (by omega) (by omega)
  simp [-evIt_rng1, start, m1, e, m2]
def SgL (l : List Int) : Prop := ∀ x ∈ l, -1 ≤ x ∧ x ≤ 1
theorem lots_of_ok (hT : TabT T) {size : Int} {many : Nat} (h0 : 0 ≤ size) (h1 : size < 1000) (hm : many < 1000) (hb : ∀ k, k ≤ many → (lotsN size k).length ≤ 16777216) : run T (n + 2) "lots_of" [.int size, .int many] s = .ok (.lst ((lotsN size many).map tupI)) s := by
  rw [run_mk hT.lots rfl]
  simp [start, some_of_ok hT.toSomeT h0 h1 hm hb]
theorem all_id_map {l : List Int} {f : Int → Bool} (h : ∀ x ∈ l, f x = true) : (l.map f).all id = true := by
  rw [List.all_map]
  exact List.all_eq_true.mpr h
theorem are_signs_ok (hT : TabT T) {l : List Int} {k : Int} (hk : (l.length : Int) = k) (h : SgL l) (hl : l.length ≤ 16777216) : run T (n + 3) "are_signs" [tupI l, .int k] s = .ok (.bl true) s := by
  rw [run_mk hT.signs rfl]
  have C := compGo_map (X := Int) (enc := PV.int) (wt := []) (s := s) (bind := fun x => evTg (run T (n + 2)) (.nm 2) x [some (tupI l), some (.int k), none]) (test := evIf (run T (n + 2)) .nil) (el := fun ρ => (evE (run T (n + 2)) (.call "is_number" (.cons (.var 2) (.cons (.neg (.int 1)) (.cons (.int 1) .nil)))) ρ).bnd fun y => M.ret [y])
    (fun x => .bl (decide (-1 ≤ x ∧ x ≤ 1))) rfl l fun x hx => by
      have := h x hx
      refine ⟨[some (tupI l), some (.int k), some (.int x)], by simp [wipe], by simp, ?_⟩
      simp [is_number_ok hT.toChecksT (n := n) (s := s) (i := x) (a := -1) (b := 1) (by unfold big; omega) (by unfold big; omega)]
  have e : (l.map fun x => PV.bl (decide (-1 ≤ x ∧ x ≤ 1))) = (l.map fun x => decide (-1 ≤ x ∧ x ≤ 1)).map .bl := by rw [List.map_map]; rfl
  rw [e] at C
  have M := mkLst_f (s := s) (vs := (l.map fun x => decide (-1 ≤ x ∧ x ≤ 1)).map .bl) (by rw [List.length_map, List.length_map]; exact hl)
  have A := all_id_map (l := l) (f := fun x => decide (-1 ≤ x ∧ x ≤ 1)) fun x hx => decide_eq_true (h x hx)
  generalize (l.map fun x => decide (-1 ≤ x ∧ x ≤ 1)) = q at *
  simp [start, isi_tupI, hk, wipe, C, M, A]
theorem shape_ok (hT : TabT T) {size rank : Int} (h1 : 0 ≤ size) (h2 : size ≤ 9) (h3 : 0 ≤ rank) (h4 : rank ≤ size) : run T (n + 3) "need_shape" [.int size, .int rank] s = .ok .non s := by
  rw [run_mk hT.shape rfl]
  simp [start, is_number_ok hT.toChecksT (n := n) (s := s) (i := size) (a := 0) (b := 9) (by unfold big; omega) (by unfold big; omega), is_number_ok hT.toChecksT (n := n) (s := s) (i := rank) (a := 0) (b := size) (by unfold big; omega) (by unfold big; omega), h1, h2, h3, h4]
/-- the first of the numbers that are not 0 -/
def fstN (l : List Int) : Int := (l.filter fun x => decide (x ≠ 0)).headD 0
theorem nonz_comp {Φ : Str → List PV → M PV} {ρ : Env} {j : Nat} (l : List Int) (v : PV) (hw : ∀ x : Int, ∃ ρ1, evTg Φ (.nm j) (.int x) ρ s = .ok ρ1 s ∧ ρ1[j]?.join = some (.int x)) : compGo [] (fun x => evTg Φ (.nm j) x ρ) (evIf Φ (.cons (.cmp .ne (.var j) (.int 0)) .nil)) (fun ρ => (evE Φ (.var j) ρ).bnd fun y => M.ret [y]) (l.map .int) s = .ok ((l.filter fun x => decide (x ≠ 0)).map .int) s := by
  refine compGo_filter (enc := PV.int) _ _ rfl l fun x hx => ?_
  obtain ⟨ρ1, e1, e2⟩ := hw x
  refine ⟨ρ1, e1, ?_, fun _ => by simp [e2]⟩
  simp only [evIf_cons, evE_cmp, evE_var, e2, oR_some, bR_ok, evE_int, ne_int, Option.map_some, truth_bl]
theorem is_normal_ok (hT : TabT T) {l : List Int} (hl : l.length ≤ 16777216) (h : fstN l = 1) : run T (n + 1) "is_normal" [tupI l] s = .ok (.bl true) s := by
  rw [run_mk hT.normal rfl]
  have C := nonz_comp (s := s) (Φ := run T n) (ρ := [some (tupI l), none, none]) (j := 2) l .non fun x => ⟨[some (tupI l), none, some (.int x)], by simp [wipe], rfl⟩
  have hf := List.length_filter_le (fun x => decide (x ≠ 0)) l
  unfold fstN at h
  generalize l.filter (fun x => decide (x ≠ 0)) = q at *
  have M := mkLst_f (s := s) (vs := q.map .int) (by rw [List.length_map]; omega)
  cases q with
  | nil => cases h
  | cons y r =>
    have h : y = 1 := h
    subst h
    have z : subG (.lst (PV.int 1 :: r.map .int)) (.int 0) s = some (.int 1) := by
      rw [sub_lst, atI_in (by decide) (by simp only [List.length_cons]; omega)]
      rfl
    have z2 := ne_ints0 (s := s) (a := 1 :: r)
    rw [List.map_cons] at z2
    rw [List.map_cons] at M C
    simp [start, wipe, C, M, z, z2]
theorem nsigns_ok (hT : TabT T) {size : Int} {rank : Nat} {l : List Int} (h0 : 0 ≤ size) (h1 : size < 1000) (hm : rank < 1000) (hb : ∀ k, k ≤ rank → (lotsN size k).length ≤ 16777216) (hl : l.length = (lotsN size rank).length) (h : SgL l) (hn : fstN l = 1) : run T (n + 4) "need_signs" [.int size, .int rank, tupI l] s = .ok .non s := by
  rw [run_mk hT.nsigns rfl]
  have hl2 : l.length ≤ 16777216 := by rw [hl]; exact hb rank (Nat.le_refl _)
  simp [start, lots_of_ok hT (n := n + 1) (s := s) h0 h1 hm hb, are_signs_ok hT (n := n) (s := s) (l := l) (k := ((lotsN size rank).length : Int)) (by rw [hl]) h hl2, is_normal_ok hT (n := n + 2) (s := s) hl2 hn]
theorem forGo_nil {wt : List (Nat × List PV)} {bind : PV → Env → M Env} {body : MS} {ρ : Env} (h : stays wt s = true) : forGo wt bind body [] ρ s = .ok (.nx ρ) s := by
  simp only [forGo, h, if_true]
theorem forGo_cons {wt : List (Nat × List PV)} {bind : PV → Env → M Env} {body : MS} {x : PV} {r : List PV} {ρ ρ1 : Env} {s1 : Store} (h : stays wt s = true) (hb : bind x ρ s = .ok ρ1 s1) : forGo wt bind body (x :: r) ρ s = (match body ρ1 s1 with
        | .ok (.nx ρ2) s2 => forGo wt bind body r ρ2 s2
        | .ok (.ct ρ2) s2 => forGo wt bind body r ρ2 s2
        | .ok (.bk ρ2) s2 => .ok (.nx ρ2) s2
        | .ok (.rt v) s2 => .ok (.rt v) s2
        | .exc e ρ2 s2 => .exc e ρ2 s2
        | .stuck => .stuck) := by
  simp only [forGo, h, if_true, hb] <;> (cases body ρ1 s1 with
  | ok f s2 => cases f <;> rfl
  | exc _ _ _ => rfl
  | stuck => rfl)
theorem forGo_nx {wt : List (Nat × List PV)} {bind : PV → Env → M Env} {body : MS} {x : PV} {r : List PV} {ρ ρ1 ρ2 : Env} {s2 : Store} (h : stays wt s = true) (hb : bind x ρ s = .ok ρ1 s) (hc : body ρ1 s = .ok (.nx ρ2) s2) : forGo wt bind body (x :: r) ρ s = forGo wt bind body r ρ2 s2 := by
  rw [forGo_cons h hb, hc]
theorem forGo_rt {wt : List (Nat × List PV)} {bind : PV → Env → M Env} {body : MS} {x v : PV} {r : List PV} {ρ ρ1 : Env} {s2 : Store} (h : stays wt s = true) (hb : bind x ρ s = .ok ρ1 s) (hc : body ρ1 s = .ok (.rt v) s2) : forGo wt bind body (x :: r) ρ s = .ok (.rt v) s2 := by
  rw [forGo_cons h hb, hc]
theorem rgN_cons {i j : Int} (h : i < j) : rgN i j = i :: rgN (i + 1) j := by
  unfold rgN
  have : (j - i).toNat = (j - (i + 1)).toNat + 1 := by omega
  rw [this, List.range_succ_eq_map, List.map_cons, List.map_map]
  congr 1
  · omega
  · refine List.map_congr_left fun k _ => ?_
    simp only [Function.comp]
    omega
theorem rgN_nil {i j : Int} (h : j ≤ i) : rgN i j = [] := by
  unfold rgN
  rw [show (j - i).toNat = 0 by omega]
  rfl
/-! #### the program's sign of sorting -/
abbrev b_sort1 : Ss := .cons (.iff (.cmp .eq (.var 4) (.var 3)) (.cons (.ret (.int 0)) .nil) .nil) (.cons (.asg (.nm 1) (.ite (.cmp .gt (.var 4) (.var 3)) (.neg (.var 1)) (.var 1))) .nil)
abbrev b_sort2 : Ss := .cons (.forr (.nm 4) (.val (.slc (.var 0) .nil (.cons (.var 2) .nil))) b_sort1) .nil
theorem sort1_in {Φ : Str → List PV → M PV} {V I : PV} {x : Int} : ∀ (pre : List Int) (f : Int) (j : Option PV), x ∈ pre → forGo [] (fun v ρ => evTg Φ (.nm 4) v ρ) (exSs Φ b_sort1) (pre.map .int) [some V, some (.int f), some I, some (.int x), j] s = .ok (.rt (.int 0)) s
  | [], _, _, h => by cases h
  | y :: r, f, j, h => by
    rw [List.map_cons]
    by_cases e : y = x
    · subst e
      exact forGo_rt rfl (ρ1 := [some V, some (.int f), some I, some (.int y), some (.int y)]) (by simp) (by simp)
    · have h' : x ∈ r := by
        rcases List.mem_cons.mp h with q | q
        · exact absurd q.symm e
        · exact q
      have ih := fun f' => sort1_in (Φ := Φ) (V := V) (I := I) (x := x) r f' (some (.int y)) h'
      by_cases hc : x < y
      · rw [forGo_nx rfl (ρ1 := [some V, some (.int f), some I, some (.int x), some (.int y)]) (ρ2 := [some V, some (.int (-f)), some I, some (.int x), some (.int y)]) (s2 := s) (by simp) (by simp [e, hc])]
        exact ih _
      · rw [forGo_nx rfl (ρ1 := [some V, some (.int f), some I, some (.int x), some (.int y)]) (ρ2 := [some V, some (.int f), some I, some (.int x), some (.int y)]) (s2 := s) (by simp) (by simp [e, hc])]
        exact ih _
theorem sort1_out {Φ : Str → List PV → M PV} {V I : PV} {x : Int} : ∀ (pre : List Int) (f : Int) (j : Option PV), x ∉ pre → ∃ j', forGo [] (fun v ρ => evTg Φ (.nm 4) v ρ) (exSs Φ b_sort1) (pre.map .int) [some V, some (.int f), some I, some (.int x), j] s = .ok (.nx [some V, some (.int (f * sgQ x pre)), some I, some (.int x), j']) s
  | [], f, j, _ => ⟨j, by rw [List.map_nil, forGo_nil rfl, show sgQ x [] = 1 from rfl, Int.mul_one]⟩
  | y :: r, f, j, h => by
    rw [List.map_cons]
    have e : ¬ y = x := fun e => h (by rw [e]; exact List.mem_cons_self ..)
    have h' : x ∉ r := fun q => h (List.mem_cons_of_mem _ q)
    by_cases hc : x < y
    · obtain ⟨j', ih⟩ := sort1_out (Φ := Φ) (V := V) (I := I) (x := x) r (-f) (some (.int y)) h'
      refine ⟨j', ?_⟩
      rw [forGo_nx rfl (ρ1 := [some V, some (.int f), some I, some (.int x), some (.int y)]) (ρ2 := [some V, some (.int (-f)), some I, some (.int x), some (.int y)]) (s2 := s) (by simp) (by simp [e, hc])]
      rw [ih, show sgQ x (y :: r) = -1 * sgQ x r by show (if x < y then -1 else 1) * _ = _; rw [if_pos hc]]
      simp [Int.neg_mul, Int.mul_neg]
    · obtain ⟨j', ih⟩ := sort1_out (Φ := Φ) (V := V) (I := I) (x := x) r f (some (.int y)) h'
      refine ⟨j', ?_⟩
      rw [forGo_nx rfl (ρ1 := [some V, some (.int f), some I, some (.int x), some (.int y)]) (ρ2 := [some V, some (.int f), some I, some (.int x), some (.int y)]) (s2 := s) (by simp) (by simp [e, hc])]
      rw [ih, show sgQ x (y :: r) = 1 * sgQ x r by show (if x < y then -1 else 1) * _ = _; rw [if_neg hc]]
      simp
abbrev encP : Int × Nat → PV := fun p => .tup [.int p.2, .int p.1]
theorem enumV_ints (l : List Int) : enumV (l.map .int) = l.zipIdx.map encP := by
  unfold enumV
  rw [List.zipIdx_map, List.map_map]
  rfl
theorem sort2 {Φ : Str → List PV → M PV} {l : List Int} : ∀ (rest pre : List Int) (f : Int) (j2 j3 j4 : Option PV), l = pre ++ rest → pre.Nodup →
    (l.Nodup → ∃ j2' j3' j4', forGo [] (fun v ρ => evTg Φ (.tp (.cons (.nm 2) (.cons (.nm 3) .nil))) v ρ) (exSs Φ b_sort2) ((rest.zipIdx pre.length).map encP) [some (tupI l), some (.int f), j2, j3, j4] s = .ok (.nx [some (tupI l), some (.int (f * sgR pre rest)), j2', j3', j4']) s) ∧
    (¬ l.Nodup → forGo [] (fun v ρ => evTg Φ (.tp (.cons (.nm 2) (.cons (.nm 3) .nil))) v ρ) (exSs Φ b_sort2) ((rest.zipIdx pre.length).map encP) [some (tupI l), some (.int f), j2, j3, j4] s = .ok (.rt (.int 0)) s)
  | [], pre, f, j2, j3, j4, e, hp => by
    rw [List.append_nil] at e
    subst e
    refine ⟨fun _ => ⟨j2, j3, j4, ?_⟩, fun h => absurd hp h⟩
    show forGo _ _ _ [] _ _ = _
    rw [forGo_nil rfl, show sgR l [] = 1 from rfl, Int.mul_one]
  | x :: r, pre, f, j2, j3, j4, e, hp => by
    rw [List.zipIdx_cons, List.map_cons]
    have hs : slcG (tupI l) none (some (pre.length : Int)) s = some (tupI pre) := by
      rw [slc_tupI_to (by rw [e, List.length_append]; omega), e, List.take_left]
    have hb : evTg Φ (.tp (.cons (.nm 2) (.cons (.nm 3) .nil))) (encP (x, pre.length)) [some (tupI l), some (.int f), j2, j3, j4] s = .ok [some (tupI l), some (.int f), some (.int pre.length), some (.int x), j4] s := by
      simp [encP]
    by_cases hx : x ∈ pre
    · have hn : ¬ l.Nodup := fun h => by
        rw [e, List.nodup_append] at h
        exact h.2.2 x hx x (List.mem_cons_self ..) rfl
      refine ⟨fun h => absurd h hn, fun _ => ?_⟩
      have z := sort1_in (s := s) (Φ := Φ) (V := tupI l) (I := .int pre.length) pre f j4 hx
      exact forGo_rt rfl hb (by simp [hs, z])
    · obtain ⟨j', z⟩ := sort1_out (s := s) (Φ := Φ) (V := tupI l) (I := .int pre.length) pre f j4 hx
      have hp' : (pre ++ [x]).Nodup := by
        rw [List.nodup_append]
        exact ⟨hp, List.pairwise_singleton _ _, fun a ha b hb => by rw [List.mem_singleton.mp hb]; intro q; exact hx (q ▸ ha)⟩
      have ih := sort2 (Φ := Φ) (l := l) r (pre ++ [x]) (f * sgQ x pre) (some (.int pre.length)) (some (.int x)) j' (by rw [e, List.append_assoc]; rfl) hp'
      rw [List.length_append] at ih
      have st : exSs Φ b_sort2 [some (tupI l), some (.int f), some (.int pre.length), some (.int x), j4] s = .ok (.nx [some (tupI l), some (.int (f * sgQ x pre)), some (.int pre.length), some (.int x), j']) s := by simp [hs, z]
      rw [forGo_nx rfl hb st]
      refine ⟨fun h => ?_, ih.2⟩
      obtain ⟨a, b, c, w⟩ := ih.1 h
      refine ⟨a, b, c, w.trans ?_⟩
      show _ = SR.ok (Fl.nx [some (tupI l), some (.int (f * (sgQ x pre * sgR (pre ++ [x]) r))), a, b, c]) s
      rw [Int.mul_assoc]
theorem sorting_sign_ok (hT : TabT T) {l : List Int} : run T (n + 1) "sorting_sign" [tupI l] s = .ok (.int (sgO l)) s := by
  rw [run_mk hT.sorting rfl]
  have z := sort2 (s := s) (Φ := run T n) (l := l) l [] 1 none none none rfl List.Pairwise.nil
  simp only [List.length_nil] at z
  by_cases h : l.Nodup
  · obtain ⟨a, b, c, w⟩ := z.1 h
    rw [sgO_nd h]
    simp [-exSs_cons, start, enumV_ints]
    rw [exSs_cons]
    simp [-exSs_cons]
    rw [exSs_cons]
    simp [-exSs_cons, enumV_ints, w, sgR_nil]
    simp
  · have w := z.2 h
    unfold sgO
    rw [if_neg h]
    simp [-exSs_cons, start, enumV_ints]
    rw [exSs_cons]
    simp [-exSs_cons]
    rw [exSs_cons]
    simp [-exSs_cons, enumV_ints, w]
/-! #### the law's sign of sorting -/
abbrev b_tsort1 : Ss := .cons (.asg (.nm 1) (.ite (.cmp .gt (.sub (.var 0) (.var 2)) (.sub (.var 0) (.var 3))) (.neg (.var 1)) (.var 1))) .nil
abbrev b_tsort2 : Ss := .cons (.forr (.nm 3) (.rng (.op .add (.var 2) (.int 1)) (.bi .len (.cons (.var 0) .nil))) b_tsort1) .nil
theorem sub_mid {l pre rest : List Int} {x : Int} (e : l = pre ++ x :: rest) : subG (tupI l) (.int pre.length) s = some (.int x) := by
  rw [sub_tupI (by omega) (by rw [e, List.length_append, List.length_cons]; omega)]
  subst e
  simp
theorem tsort1 {Φ : Str → List PV → M PV} {l : List Int} {i x : Int} (hx : subG (tupI l) (.int i) s = some (.int x)) : ∀ (rest pre : List Int) (f : Int) (j : Option PV), l = pre ++ rest → ∃ j', forGo [] (fun v ρ => evTg Φ (.nm 3) v ρ) (exSs Φ b_tsort1) ((rgN pre.length l.length).map .int) [some (tupI l), some (.int f), some (.int i), j] s = .ok (.nx [some (tupI l), some (.int (f * sgP x rest)), some (.int i), j']) s
  | [], pre, f, j, e => by
    refine ⟨j, ?_⟩
    rw [List.append_nil] at e
    rw [rgN_nil (by rw [e]; omega), List.map_nil, forGo_nil rfl, show sgP x [] = 1 from rfl, Int.mul_one]
  | y :: r, pre, f, j, e => by
    have hl : (pre.length : Int) < l.length := by rw [e, List.length_append, List.length_cons]; omega
    rw [rgN_cons hl, List.map_cons]
    have hy := sub_mid (s := s) e
    by_cases hc : y < x
    · obtain ⟨j', ih⟩ := tsort1 hx r (pre ++ [y]) (-f) (some (.int pre.length)) (by rw [e, List.append_assoc]; rfl)
      rw [List.length_append] at ih
      refine ⟨j', ?_⟩
      rw [forGo_nx rfl (ρ1 := [some (tupI l), some (.int f), some (.int i), some (.int pre.length)]) (ρ2 := [some (tupI l), some (.int (-f)), some (.int i), some (.int pre.length)]) (s2 := s) (by simp) (by simp [hx, hy, hc])]
      refine Eq.trans ih ?_
      rw [show sgP x (y :: r) = -1 * sgP x r by show (if y < x then -1 else 1) * _ = _; rw [if_pos hc]]
      simp [Int.neg_mul, Int.mul_neg]
    · obtain ⟨j', ih⟩ := tsort1 hx r (pre ++ [y]) f (some (.int pre.length)) (by rw [e, List.append_assoc]; rfl)
      rw [List.length_append] at ih
      refine ⟨j', ?_⟩
      rw [forGo_nx rfl (ρ1 := [some (tupI l), some (.int f), some (.int i), some (.int pre.length)]) (ρ2 := [some (tupI l), some (.int f), some (.int i), some (.int pre.length)]) (s2 := s) (by simp) (by simp [hx, hy, hc])]
      refine Eq.trans ih ?_
      rw [show sgP x (y :: r) = 1 * sgP x r by show (if y < x then -1 else 1) * _ = _; rw [if_neg hc]]
      simp
theorem tsort2 {Φ : Str → List PV → M PV} {l : List Int} (hl : l.length < 1000) : ∀ (rest pre : List Int) (f : Int) (j2 j3 : Option PV), l = pre ++ rest → ∃ j2' j3', forGo [] (fun v ρ => evTg Φ (.nm 2) v ρ) (exSs Φ b_tsort2) ((rgN pre.length l.length).map .int) [some (tupI l), some (.int f), j2, j3] s = .ok (.nx [some (tupI l), some (.int (f * sgL rest)), j2', j3']) s
  | [], pre, f, j2, j3, e => by
    refine ⟨j2, j3, ?_⟩
    rw [List.append_nil] at e
    rw [rgN_nil (by rw [e]; omega), List.map_nil, forGo_nil rfl, show sgL [] = 1 from rfl, Int.mul_one]
  | x :: r, pre, f, j2, j3, e => by
    have hl2 : (pre.length : Int) < l.length := by rw [e, List.length_append, List.length_cons]; omega
    rw [rgN_cons hl2, List.map_cons]
    have hx := sub_mid (s := s) e
    obtain ⟨j', z⟩ := tsort1 (Φ := Φ) hx r (pre ++ [x]) f j3 (by rw [e, List.append_assoc]; rfl)
    rw [List.length_append] at z
    obtain ⟨a, b, ih⟩ := tsort2 (Φ := Φ) (l := l) hl r (pre ++ [x]) (f * sgP x r) (some (.int pre.length)) j' (by rw [e, List.append_assoc]; rfl)
    rw [List.length_append] at ih
    refine ⟨a, b, ?_⟩
    have w := evIt_rng_of (Φ := Φ) (s := s) (ρ := [some (tupI l), some (.int f), some (.int pre.length), j3]) (a := .op .add (.var 2) (.int 1)) (b := .bi .len (.cons (.var 0) .nil)) (i := pre.length + 1) (j := l.length) (by simp) (by simp) (by omega) (by omega) (by omega) (by omega)
    have st : exSs Φ b_tsort2 [some (tupI l), some (.int f), some (.int pre.length), j3] s = .ok (.nx [some (tupI l), some (.int (f * sgP x r)), some (.int pre.length), j']) s := by
      have z' : forGo [] (fun v ρ => evTg Φ (.nm 3) v ρ) (exSs Φ b_tsort1) ((rgN (pre.length + 1) l.length).map .int) [some (tupI l), some (.int f), some (.int pre.length), j3] s = _ := z
      rw [exSs_cons, exS_forr, w]
      simp only [sR_ok, z', kR_nx, exSs_nil]
    rw [forGo_nx rfl (ρ1 := [some (tupI l), some (.int f), some (.int pre.length), j3]) (by simp) st]
    refine Eq.trans ih ?_
    show _ = SR.ok (Fl.nx [some (tupI l), some (.int (f * (sgP x r * sgL r))), a, b]) s
    rw [Int.mul_assoc]
theorem tg_sorting_ok (hT : T "_law_tg_sorting" = some f__law_tg_sorting) {l : List Int} (hl : l.length < 1000) : run T (n + 1) "_law_tg_sorting" [tupI l] s = .ok (.int (sgO l)) s := by
  rw [run_mk hT rfl]
  have z := lset_tupI (s := s) (l := l) (by omega)
  by_cases h : l.Nodup
  · rw [ddI_id h] at z
    rw [sgO_nd h]
    obtain ⟨a, b, w⟩ := tsort2 (s := s) (Φ := run T n) (l := l) hl l [] 1 none none rfl
    have w2 := evIt_rng1_of (Φ := run T n) (s := s) (ρ := [some (tupI l), some (.int 1), none, none]) (b := .bi .len (.cons (.var 0) .nil)) (j := l.length) (by simp) (by omega) (by omega)
    have w : forGo [] (fun v ρ => evTg (run T n) (.nm 2) v ρ) (exSs (run T n) b_tsort2) ((rgN 0 l.length).map .int) [some (tupI l), some (.int 1), none, none] s = _ := w
    simp [-evIt_rng1, -evIt_rng, start, z, w2, w]
  · have := ddI_lt h
    have e : sgO l = 0 := if_neg h
    have h3 : ((ddI l).length : Int) < l.length := by omega
    simp [-exS_forr, start, z, h3, e, this]
/-! #### signs by a dict -/
def sgnG (g : List Int → Int) (l : List Int) : Int := if l.Nodup then sgL l * g (sortI l) else 0
theorem sgO_ne {l : List Int} : sgO l = 0 ↔ ¬ l.Nodup := by
  unfold sgO
  by_cases h : l.Nodup
  · rw [if_pos h]
    rcases sgL_one l with e | e <;> rw [e] <;> simp [h]
  · rw [if_neg h]; simp [h]
theorem small_sg (l : List Int) : small64 (sgO l) = true := by
  unfold sgO small64
  split
  · rcases sgL_one l with e | e <;> rw [e] <;> decide
  · decide
theorem sgn_tail {D : PV} {g : List Int → Int} {l : List Int} (hg : l.Nodup → subG D (tupI (sortI l)) s = some (.int (g (sortI l)))) {Φ : Str → List PV → M PV} {c : Str} (hc : Φ c [tupI l] s = .ok (.int (sgO l)) s) :
    exSs Φ (.cons (.asg (.nm 2) (.call c (.cons (.var 1) .nil))) (.cons (.ret (.ite (.cmp .eq (.var 2) (.int 0)) (.int 0) (.op .mul (.var 2) (.sub (.var 0) (.bi .tuple (.cons (.bi .sorted (.cons (.var 1) .nil)) .nil)))))) .nil)) [some D, some (tupI l), none] s = .ok (.rt (.int (sgnG g l))) s := by
  by_cases h : l.Nodup
  · have e : ¬ sgO l = 0 := fun e => sgO_ne.mp e h
    have m := mulL_ (s := s) (i := sgO l) (j := g (sortI l)) (small_sg l)
    have q : sgnG g l = sgO l * g (sortI l) := by unfold sgnG; rw [if_pos h, sgO_nd h]
    have hg' : subG D (.tup ((sortI l).map .int)) s = some (.int (g (sortI l))) := hg h
    simp [hc, e, hg', m, q]
  · have e : sgO l = 0 := sgO_ne.mpr h
    have q : sgnG g l = 0 := if_neg h
    simp [hc, e, q]
theorem sign_by_ok (hT : TabT T) {D : PV} {g : List Int → Int} {l : List Int} (hg : l.Nodup → subG D (tupI (sortI l)) s = some (.int (g (sortI l)))) : run T (n + 2) "sign_by" [D, tupI l] s = .ok (.int (sgnG g l)) s := by
  rw [run_mk hT.sign_by rfl]
  have z := sgn_tail (Φ := run T (n + 1)) hg (sorting_sign_ok hT)
  simp only [start, List.map_cons, List.map_nil, List.length_cons, List.length_nil, List.cons_append, List.nil_append]
  rw [show (List.replicate (0 + 1 + 1 + 1 - (0 + 1 + 1)) (none : Option PV)) = [none] from rfl, z]
  rfl
theorem tg_sign_ok (hT : T "_law_tg_sign" = some f__law_tg_sign) (hT2 : T "_law_tg_sorting" = some f__law_tg_sorting) {D : PV} {g : List Int → Int} {l : List Int} (hl : l.length < 1000) (hg : l.Nodup → subG D (tupI (sortI l)) s = some (.int (g (sortI l)))) : run T (n + 2) "_law_tg_sign" [D, tupI l] s = .ok (.int (sgnG g l)) s := by
  rw [run_mk hT rfl]
  have z := sgn_tail (Φ := run T (n + 1)) hg (tg_sorting_ok hT2 hl)
  simp only [start, List.map_cons, List.map_nil, List.length_cons, List.length_nil, List.cons_append, List.nil_append]
  rw [show (List.replicate (0 + 1 + 1 + 1 - (0 + 1 + 1)) (none : Option PV)) = [none] from rfl, z]
  rfl
/-! #### normal signs -/
theorem pstays_watch (s : Store) (v : PV) : stays (watch s v) s = true := by
  cases v with
  | ref k =>
    show stays (match s[k]? with | some (.lst xs) => [(k, xs)] | _ => []) s = true
    split
    · rename_i xs h
      show ((match s[k]? with | some (.lst ys) => peqs xs ys | _ => false) && true) = true
      rw [h]
      simp [peqs_refl]
    · rfl
  | _ => rfl
def normI (l : List Int) : List Int := if fstN l = -1 then l.map (fun x => -x) else l
theorem nonz_compW {Φ : Str → List PV → M PV} {ρ : Env} {j : Nat} (l : List Int) (wt : List (Nat × List PV)) (hst : stays wt s = true) (el : E) (f : Int → Int) (hw : ∀ x : Int, ∃ ρ1, evTg Φ (.nm j) (.int x) ρ s = .ok ρ1 s ∧ ρ1[j]?.join = some (.int x) ∧ evE Φ el ρ1 s = .ok (.int (f x)) s) : compGo wt (fun x => evTg Φ (.nm j) x ρ) (evIf Φ (.cons (.cmp .ne (.var j) (.int 0)) .nil)) (fun ρ => (evE Φ el ρ).bnd fun y => M.ret [y]) (l.map .int) s = .ok (((l.filter fun x => decide (x ≠ 0)).map f).map .int) s := by
  rw [List.map_map]
  refine compGo_filter (enc := PV.int) _ _ hst l fun x hx => ?_
  obtain ⟨ρ1, e1, e2, e3⟩ := hw x
  refine ⟨ρ1, e1, ?_, fun _ => by simp [e3]⟩
  simp only [evIf_cons, evE_cmp, evE_var, e2, oR_some, bR_ok, evE_int, ne_int, Option.map_some, truth_bl]
theorem fstN_cases (l : List Int) : (l.filter (fun x => decide (x ≠ 0)) = [] ∧ fstN l = 0) ∨ ∃ r, l.filter (fun x => decide (x ≠ 0)) = fstN l :: r ∧ fstN l ≠ 0 := by
  unfold fstN
  generalize hq : l.filter (fun x => decide (x ≠ 0)) = q
  cases q with
  | nil => exact .inl ⟨rfl, rfl⟩
  | cons y r =>
    right
    refine ⟨r, rfl, ?_⟩
    have : y ∈ l.filter (fun x => decide (x ≠ 0)) := by rw [hq]; exact List.mem_cons_self ..
    have := (List.mem_filter.mp this).2
    simpa using this
theorem fstN_neg : ∀ l : List Int, fstN (l.map fun x => -x) = - fstN l
  | [] => rfl
  | x :: r => by
    unfold fstN
    have ih := fstN_neg r
    unfold fstN at ih
    by_cases h : x = 0
    · subst h; simpa using ih
    · have : ¬ -x = 0 := by omega
      simp [h, this]
theorem fstN_norm {l : List Int} (h : SgL l) (h0 : fstN l ≠ 0) : fstN (normI l) = 1 := by
  unfold normI
  have hm : fstN l = 1 ∨ fstN l = -1 := by
    rcases fstN_cases l with ⟨_, e⟩ | ⟨r, e, _⟩
    · exact absurd e h0
    · have : fstN l ∈ l := (List.mem_filter.mp (e ▸ List.mem_cons_self ..)).1
      have := h _ this
      omega
  rcases hm with e | e
  · rw [if_neg (by rw [e]; decide), e]
  · rw [if_pos e, fstN_neg, e]; rfl
theorem normI_len (l : List Int) : (normI l).length = l.length := by unfold normI; split <;> simp
theorem normI_sg {l : List Int} (h : SgL l) : SgL (normI l) := by
  unfold normI
  split
  · intro x hx
    obtain ⟨y, hy, e⟩ := List.mem_map.mp hx
    have := h y hy; omega
  · exact h
theorem tg_normal_ok (hT : T "_law_tg_normal" = some f__law_tg_normal) {v : PV} {l : List Int} (hv : seqOf s v = some (l.map .int)) (hl : l.length ≤ 16777216) : run T (n + 1) "_law_tg_normal" [v] s = .ok (tupI (normI l)) s := by
  rw [run_mk hT rfl]
  have C := nonz_compW (s := s) (Φ := run T n) (ρ := [some v, none, none]) (j := 2) l (watch s v) (pstays_watch s v) (.var 2) (fun x => x) fun x => ⟨[some v, none, some (.int x)], by simp, rfl, by simp⟩
  have hf := List.length_filter_le (fun x => decide (x ≠ 0)) l
  have N : ∀ q : PV, compGo (watch s v) (fun x => evTg (run T n) (.nm 2) x [some v, some q, none]) (evIf (run T n) .nil) (fun ρ => (evE (run T n) (.neg (.var 2)) ρ).bnd fun y => M.ret [y]) (l.map .int) s = .ok ((l.map fun x => -x).map .int) s := fun q => by
    rw [List.map_map]
    refine compGo_map (enc := PV.int) _ (pstays_watch s v) l fun x hx => ⟨[some v, some q, some (.int x)], by simp, by simp, by simp⟩
  have M2 := mkLst_f (s := s) (vs := (l.map fun x => -x).map .int) (by rw [List.length_map, List.length_map]; exact hl)
  have TP : biF .tuple [v] s = some (tupI l) := by
    show (seqOf s v).map PV.tup = _
    rw [hv]; rfl
  have hc := fstN_cases l
  unfold normI
  generalize hF : fstN l = F at *
  generalize l.filter (fun x => decide (x ≠ 0)) = q at *
  rw [List.map_id'] at C
  have M := mkLst_f (s := s) (vs := q.map .int) (by rw [List.length_map]; omega)
  generalize hm : (l.map fun x => -x) = lm at *
  rcases hc with ⟨e1, e2⟩ | ⟨r, e1, e2⟩
  · subst e1
    have : ¬ F = -1 := by omega
    rw [List.map_nil] at M C
    have z2 := ne_ints0 (s := s) (a := [])
    rw [List.map_nil] at z2
    simp [start, wipe, hv, C, M, z2, TP, this]
  · subst e1
    have z : subG (.lst (PV.int F :: r.map .int)) (.int 0) s = some (.int F) := by
      rw [sub_lst, atI_in (by decide) (by simp only [List.length_cons]; omega)]
      rfl
    have z2 := ne_ints0 (s := s) (a := F :: r)
    rw [List.map_cons] at z2
    rw [List.map_cons] at M C
    by_cases h : F = -1
    · subst h
      simp [start, wipe, hv, C, M, z, z2, N, M2]
      rfl
    · simp [start, wipe, hv, C, M, z, z2, h, TP]
end Mini

set_option Elab.async false
set_option linter.all false
set_option maxRecDepth 100000
/-! MiniB: the rules of signs, by the program and by the laws: what their defs compute. -/
namespace Mini
open PySem (Str PyData)
variable {T : Str → Option Fn} {n : Nat} {s : Store}
/-! ### dicts by tuples -/
theorem peqs_ints : ∀ a b : List Int, peqs (a.map .int) (b.map .int) = decide (a = b)
  | [], [] => rfl
  | [], _ :: _ => rfl
  | _ :: _, [] => rfl
  | x :: r, y :: q => by
    simp only [List.map_cons, peqs, peq, peqs_ints r q, List.cons.injEq]
    by_cases h : x = y <;> simp [h]
theorem peq_tupI (a b : List Int) : peq (tupI a) (tupI b) = decide (a = b) := by
  show peqs (a.map .int) (b.map .int) = _
  exact peqs_ints a b
theorem dhas_tups (x : List Int) : ∀ L : List (List Int), dhas (L.map tupI) (tupI x) = decide (x ∈ L)
  | [] => rfl
  | y :: r => by
    have ih := dhas_tups x r
    unfold dhas at ih ⊢
    rw [List.map_cons, List.any_cons, ih, peq_tupI]
    by_cases h : y = x
    · subst h; simp
    · have h' : ¬ x = y := fun e => h e.symm
      simp [h, h']
def look (L : List (List Int)) (sg : List Int) (l : List Int) : Int := match L, sg with
  | k :: L, x :: sg => if k = l then x else look L sg l
  | _, _ => 0
theorem dget_tups (l : List Int) : ∀ (L : List (List Int)) (sg : List Int), L.length = sg.length → l ∈ L → dget (L.map tupI) (sg.map .int) (tupI l) = some (.int (look L sg l))
  | [], _, _, h => by cases h
  | _ :: _, [], h, _ => by cases h
  | k :: L, x :: sg, hl, h => by
    simp only [List.map_cons, dget, look, peq_tupI]
    by_cases e : k = l
    · simp [e]
    · simp only [e, decide_false, if_false, Bool.false_eq_true]
      refine dget_tups l L sg (by simpa using hl) ?_
      rcases List.mem_cons.mp h with q | q
      · exact absurd q.symm e
      · exact q
theorem look_mem : ∀ (L : List (List Int)) (sg : List Int) (l : List Int), L.length = sg.length → l ∈ L → look L sg l ∈ sg
  | [], _, _, _, h => by cases h
  | _ :: _, [], _, h, _ => by cases h
  | k :: L, x :: sg, l, hl, h => by
    unfold look
    by_cases e : k = l
    · rw [if_pos e]; exact List.mem_cons_self ..
    · rw [if_neg e]
      refine List.mem_cons_of_mem _ (look_mem L sg l (by simpa using hl) ?_)
      rcases List.mem_cons.mp h with q | q
      · exact absurd q.symm e
      · exact q
theorem look_map (f : List Int → Int) (l : List Int) : ∀ (L : List (List Int)), l ∈ L → look L (L.map f) l = f l
  | [], h => by cases h
  | k :: L, h => by
    rw [List.map_cons]
    unfold look
    by_cases e : k = l
    · rw [if_pos e, e]
    · rw [if_neg e]
      refine look_map f l L ?_
      rcases List.mem_cons.mp h with q | q
      · exact absurd q.symm e
      · exact q
def dicL (L : List (List Int)) (sg : List Int) : PV := .dic true (L.map tupI) (sg.map .int)
theorem keyOk_tupI (l : List Int) : keyOk true (tupI l) = true := by
  show (l.map PV.int).all keyB = true
  rw [List.all_map]
  exact List.all_eq_true.mpr fun _ _ => rfl
theorem dfill_tups : ∀ (L : List (List Int)) (sg : List Int) (L0 : List (List Int)) (sg0 : List Int), L.length = sg.length → (L0 ++ L).Nodup → dfill (L0.map tupI, sg0.map .int) ((L.map tupI).zip (sg.map .int)) = ((L0 ++ L).map tupI, (sg0 ++ sg).map .int)
  | [], [], L0, sg0, _, _ => by simp [dfill]
  | [], _ :: _, _, _, h, _ => by cases h
  | _ :: _, [], _, _, h, _ => by cases h
  | k :: L, x :: sg, L0, sg0, hl, hn => by
    have hk : k ∉ L0 := fun h => by
      rw [List.nodup_append] at hn
      exact hn.2.2 k h k (List.mem_cons_self ..) rfl
    have ih := dfill_tups L sg (L0 ++ [k]) (sg0 ++ [x]) (by simpa using hl) (by rw [List.append_assoc]; exact hn)
    unfold dfill at ih ⊢
    rw [List.map_cons, List.map_cons, List.zip_cons_cons, List.foldl_cons]
    have e : dput (L0.map tupI) (sg0.map .int) (tupI k) (PV.int x) = ((L0 ++ [k]).map tupI, (sg0 ++ [x]).map .int) := by
      unfold dput
      rw [dhas_tups, if_neg (by simpa using hk)]
      simp
    rw [e, ih, List.append_assoc, List.append_assoc]
    rfl
theorem dzip_ok {L : List (List Int)} {sg : List Int} {v : PV} (hn : L.Nodup) (hl : L.length = sg.length) (hv : seqOf s v = some (sg.map .int)) : dzipF (.lst (L.map tupI)) v s = some (L.map tupI, sg.map .int) := by
  unfold dzipF
  rw [seqOf_lst, hv]
  simp only [Option.bind_some]
  rw [if_pos]
  · exact congrArg some (dfill_tups L sg [] [] hl hn)
  · rw [List.all_map]
    exact List.all_eq_true.mpr fun l _ => keyOk_tupI l
theorem sub_dicL {L : List (List Int)} {sg : List Int} {l : List Int} (hl : L.length = sg.length) (h : l ∈ L) : subG (dicL L sg) (tupI l) s = some (.int (look L sg l)) := by
  show (if keyOk true (tupI l) then dget (L.map tupI) (sg.map .int) (tupI l) else none) = _
  rw [if_pos (keyOk_tupI l), dget_tups l L sg hl h]
/-! ### loops that look for something -/
def Looks (I : Env → Store → Prop) (B : PV → Store → Prop) (o : Option PV) (r : SR) : Prop := match o with
  | some v => ∃ s', r = .ok (.rt v) s' ∧ B v s'
  | none => ∃ ρ' s', r = .ok (.nx ρ') s' ∧ I ρ' s'
theorem forGo_look {X : Type} {enc : X → PV} {wt : List (Nat × List PV)} {bind : PV → Env → M Env} {body : MS} (I : Env → Store → Prop) (B : PV → Store → Prop) (P : X → Option PV) (hst : ∀ ρ s, I ρ s → stays wt s = true) :
    ∀ (xs : List X) (step : ∀ x ∈ xs, ∀ ρ s, I ρ s → ∃ ρ1 s1, bind (enc x) ρ s = .ok ρ1 s1 ∧ Looks I B (P x) (body ρ1 s1)) (ρ : Env) (s : Store), I ρ s → Looks I B (xs.findSome? P) (forGo wt bind body (xs.map enc) ρ s)
  | [], _, ρ, s, h => ⟨ρ, s, forGo_nil (hst ρ s h), h⟩
  | x :: r, step, ρ, s, h => by
    obtain ⟨ρ1, s1, e1, hb⟩ := step x (List.mem_cons_self ..) ρ s h
    rw [List.findSome?_cons, List.map_cons, forGo_cons (hst ρ s h) e1]
    cases hp : P x with
    | some v =>
      rw [hp] at hb
      obtain ⟨s2, e2, h2⟩ := hb
      exact ⟨s2, by rw [e2], h2⟩
    | none =>
      rw [hp] at hb
      obtain ⟨ρ2, s2, e2, h2⟩ := hb
      have ih := forGo_look I B P hst r (fun y hy => step y (List.mem_cons_of_mem _ hy)) ρ2 s2 h2
      rw [e2]
      exact ih
theorem Looks.nil {I : Env → Store → Prop} {B : PV → Store → Prop} {o : Option PV} {r : SR} (h : Looks I B o r) (Φ : Str → List PV → M PV) : Looks I B o (kR r (exSs Φ .nil)) := by
  cases o with
  | some v =>
    obtain ⟨s', e, hb⟩ := h
    exact ⟨s', by rw [e]; rfl, hb⟩
  | none =>
    obtain ⟨ρ', s', e, hb⟩ := h
    exact ⟨ρ', s', by rw [e, kR_nx, exSs_nil], hb⟩
/-- looked for, then went on -/
theorem Looks.seq {I I' : Env → Store → Prop} {B : PV → Store → Prop} {o o' : Option PV} {r : SR} {f : Env → Store → SR} (h : Looks I B o r) (h' : o = none → ∀ ρ s, I ρ s → Looks I' B o' (f ρ s)) : Looks I' B (o <|> o') (kR r f) := by
  cases o with
  | some v =>
    obtain ⟨s', e, hb⟩ := h
    exact ⟨s', by rw [e]; rfl, hb⟩
  | none =>
    obtain ⟨ρ', s', e, hb⟩ := h
    rw [e, kR_nx]
    exact h' rfl ρ' s' hb
theorem Looks.imp {I I' : Env → Store → Prop} {B : PV → Store → Prop} {o : Option PV} {r : SR} (h : Looks I B o r) (hi : ∀ ρ s, I ρ s → I' ρ s) : Looks I' B o r := by
  cases o with
  | some v => exact h
  | none =>
    obtain ⟨ρ', s', e, hb⟩ := h
    exact ⟨ρ', s', e, hi _ _ hb⟩
/-! ### exchanges of bases -/
def leftOf (one : List Int) (gone : Int) : List Int := one.filter fun x => decide (x ≠ gone)
def moreOk (g : List Int → Int) (one : List Int) (gone more : Int) : Bool := decide (more ∉ one) && decide (g (sortI (leftOf one gone ++ [more])) ≠ 0)
def swaps (g : List Int → Int) (one other : List Int) (gone : Int) : List Int := other.filter fun more => moreOk g one gone more
def brk1 (g : List Int → Int) (one other : List Int) (gone : Int) : Option PV := if gone ∈ other then none else if swaps g one other gone = [] then some (.tup [.str "bases", tupI one, tupI other, .int gone]) else none
def brkB (g : List Int → Int) (bases : List (List Int)) : Option PV := bases.findSome? fun one => bases.findSome? fun other => one.findSome? fun gone => brk1 g one other gone
theorem leftOf_len : ∀ {one : List Int} {gone : Int}, one.Nodup → gone ∈ one → (leftOf one gone).length + 1 = one.length
  | [], _, _, h => by cases h
  | x :: r, gone, hn, h => by
    have hn' := List.nodup_cons.mp hn
    unfold leftOf
    rw [List.filter_cons]
    by_cases e : x = gone
    · have : r.filter (fun x => decide (x ≠ gone)) = r := List.filter_eq_self.mpr fun y hy => decide_eq_true fun q => hn'.1 (by rw [e, ← q]; exact hy)
      rw [if_neg (by simp [e]), this]
      rfl
    · have h' : gone ∈ r := by
        rcases List.mem_cons.mp h with q | q
        · exact absurd q.symm e
        · exact q
      have ih := leftOf_len hn'.2 h'
      unfold leftOf at ih
      rw [if_pos (by simp [e]), List.length_cons, List.length_cons, ih]
theorem swap_lot {size : Int} {rank : Nat} {one other : List Int} {gone more : Int} (h1 : one ∈ lotsN size rank) (h2 : other ∈ lotsN size rank) (hg : gone ∈ one) (hm : more ∈ other) (ho : more ∉ one) : sortI (leftOf one gone ++ [more]) ∈ lotsN size rank := by
  have a := mem_lots.mp h1
  have b := mem_lots.mp h2
  have nd := asc_nodup a.2.1
  refine sortI_lot ?_ ?_ ?_
  · rw [List.nodup_append]
    exact ⟨nd.filter _, List.pairwise_singleton _ _, fun x hx y hy => by
      rw [List.mem_singleton.mp hy]
      intro e
      exact ho (e ▸ (List.mem_filter.mp hx).1)⟩
  · rw [List.length_append]
    exact (leftOf_len nd hg).trans a.1
  · intro x hx
    rcases List.mem_append.mp hx with q | q
    · exact a.2.2 x (List.mem_filter.mp q).1
    · rw [List.mem_singleton.mp q]; exact b.2.2 more hm
/-- [element for element in one if element != gone] -/
theorem comp_left {Φ : Str → List PV → M PV} {ρ : Env} {j jg : Nat} (one : List Int) (gone : Int) (hw : ∀ x : Int, ∃ ρ1, evTg Φ (.nm j) (.int x) ρ s = .ok ρ1 s ∧ ρ1[j]?.join = some (.int x) ∧ ρ1[jg]?.join = some (.int gone)) : compGo [] (fun x => evTg Φ (.nm j) x ρ) (evIf Φ (.cons (.cmp .ne (.var j) (.var jg)) .nil)) (fun ρ => (evE Φ (.var j) ρ).bnd fun y => M.ret [y]) (one.map .int) s = .ok ((leftOf one gone).map .int) s := by
  refine compGo_filter (enc := PV.int) _ _ rfl one fun x hx => ?_
  obtain ⟨ρ1, e1, e2, e3⟩ := hw x
  refine ⟨ρ1, e1, ?_, fun _ => by simp [e2]⟩
  simp only [evIf_cons, evE_cmp, evE_var, e2, e3, oR_some, bR_ok, ne_int, Option.map_some, truth_bl]
/-- [.. for more in other if more not in one and known[tuple(sorted(left + [more]))] != 0] -/
theorem comp_more {Φ : Str → List PV → M PV} {ρ : Env} {j jo jk jl : Nat} {el : E} (g : List Int → Int) (one other : List Int) (gone : Int) (D : PV) (f : Int → Int) (hlen : one.length < 1000)
    (hw : ∀ x : Int, ∃ ρ1, evTg Φ (.nm j) (.int x) ρ s = .ok ρ1 s ∧ ρ1[j]?.join = some (.int x) ∧ ρ1[jo]?.join = some (tupI one) ∧ ρ1[jk]?.join = some D ∧ ρ1[jl]?.join = some (.lst ((leftOf one gone).map .int)) ∧ evE Φ el ρ1 s = .ok (.int (f x)) s)
    (hg : ∀ more ∈ other, more ∉ one → subG D (tupI (sortI (leftOf one gone ++ [more]))) s = some (.int (g (sortI (leftOf one gone ++ [more]))))) :
    compGo [] (fun x => evTg Φ (.nm j) x ρ) (evIf Φ (.cons (.and (.cmp .notin (.var j) (.var jo)) (.cmp .ne (.sub (.var jk) (.bi .tuple (.cons (.bi .sorted (.cons (.op .add (.var jl) (.lst false (.cons (.var j) .nil))) .nil)) .nil))) (.int 0))) .nil)) (fun ρ => (evE Φ el ρ).bnd fun y => M.ret [y]) (other.map .int) s = .ok (((swaps g one other gone).map f).map .int) s := by
  rw [List.map_map]
  refine compGo_filter (enc := PV.int) _ _ rfl other fun x hx => ?_
  obtain ⟨ρ1, e1, e2, e3, e4, e5, e6⟩ := hw x
  refine ⟨ρ1, e1, ?_, fun _ => by simp [e6]⟩
  by_cases h : x ∈ one
  · simp [e2, e3, h, moreOk]
  · have hll : (leftOf one gone).length ≤ one.length := List.length_filter_le _ _
    have A := addL_lst (s := s) (xs := (leftOf one gone).map .int) (ys := [.int x]) (by rw [List.length_map]; show _ + 1 ≤ _; omega)
    have e : (leftOf one gone).map PV.int ++ [.int x] = (leftOf one gone ++ [x]).map .int := by simp
    rw [e] at A
    have M := mkLst_f (s := s) (vs := [PV.int x]) (by simp)
    have hg' : subG D (.tup ((sortI (leftOf one gone ++ [x])).map .int)) s = _ := hg x hx h
    have S := sorted_ints (s := s) (l := leftOf one gone ++ [x])
    simp only [evIf_cons, evE_and, evE_cmp, evE_var, e2, e3, e4, e5, oR_some, bR_ok, notin_tupI, Option.map_some, truth_bl, h, not_false_eq_true, decide_true, if_true, evE_sub, evE_bi, evEs_cons, evEs_nil, evE_op, evE_lst, M, A, S, tuple_lst, hg', evE_int, ne_int, moreOk, Bool.true_and]
theorem findSome?_filter' {α β : Type} (p : α → Bool) (f : α → Option β) : ∀ l : List α, (l.filter p).findSome? f = l.findSome? fun x => if p x then f x else none
  | [] => rfl
  | x :: r => by
    rw [List.filter_cons]
    cases h : p x with
    | true => simp only [if_true, List.findSome?_cons, h, findSome?_filter' p f r]
    | false => simp only [Bool.false_eq_true, if_false, List.findSome?_cons, h, findSome?_filter' p f r]
theorem comp_bases {Φ : Str → List PV → M PV} {ρ : Env} {j jk : Nat} (g : List Int → Int) (L : List (List Int)) (D : PV) (hw : ∀ x : List Int, ∃ ρ1, evTg Φ (.nm j) (tupI x) ρ s = .ok ρ1 s ∧ ρ1[j]?.join = some (tupI x) ∧ ρ1[jk]?.join = some D) (hg : ∀ l ∈ L, subG D (tupI l) s = some (.int (g l))) :
    compGo [] (fun x => evTg Φ (.nm j) x ρ) (evIf Φ (.cons (.cmp .ne (.sub (.var jk) (.var j)) (.int 0)) .nil)) (fun ρ => (evE Φ (.var j) ρ).bnd fun y => M.ret [y]) (L.map tupI) s = .ok ((L.filter fun l => decide (g l ≠ 0)).map tupI) s := by
  refine compGo_filter (enc := tupI) _ _ rfl L fun x hx => ?_
  obtain ⟨ρ1, e1, e2, e3⟩ := hw x
  refine ⟨ρ1, e1, ?_, fun _ => by simp [e2]⟩
  simp only [evIf_cons, evE_cmp, evE_sub, evE_var, e2, e3, hg x hx, oR_some, bR_ok, evE_int, ne_int, Option.map_some, truth_bl]
def basesG (g : List Int → Int) (L : List (List Int)) : List (List Int) := L.filter fun l => decide (g l ≠ 0)
abbrev bb1 : Ss := .cons (.iff (.cmp .notin (.var 5) (.var 4)) (.cons (.asg (.nm 6) (.lc false (.var 9) (.nm 9) (.val (.var 3)) (.cons (.cmp .ne (.var 9) (.var 5)) .nil) [("element", 9)])) (.cons (.asg (.nm 7) (.lc false (.var 10) (.nm 10) (.val (.var 4)) (.cons (.and (.cmp .notin (.var 10) (.var 3)) (.cmp .ne (.sub (.var 1) (.bi .tuple (.cons (.bi .sorted (.cons (.op .add (.var 6) (.lst false (.cons (.var 10) .nil))) .nil)) .nil))) (.int 0))) .nil) [("more", 10)])) (.cons (.iff (.cmp .eq (.var 7) (.lst false .nil)) (.cons (.ret (.tup (.cons (.str "bases") (.cons (.var 3) (.cons (.var 4) (.cons (.var 5) .nil)))))) .nil) .nil) .nil))) .nil) .nil
abbrev bb2 : Ss := .cons (.forr (.nm 5) (.val (.var 3)) bb1) .nil
abbrev bb3 : Ss := .cons (.forr (.nm 4) (.val (.var 2)) bb2) .nil
def IB (V K : PV) (bs : List (List Int)) (s : Store) : Env → Store → Prop := fun ρ s' => s' = s ∧ ∃ a b c d e, ρ = [some V, some K, some (.lst (bs.map tupI)), a, b, c, d, e, none, none, none]
def IB1 (V K : PV) (bs : List (List Int)) (one : List Int) (s : Store) : Env → Store → Prop := fun ρ s' => s' = s ∧ ∃ b c d e, ρ = [some V, some K, some (.lst (bs.map tupI)), some (tupI one), b, c, d, e, none, none, none]
def IB2 (V K : PV) (bs : List (List Int)) (one other : List Int) (s : Store) : Env → Store → Prop := fun ρ s' => s' = s ∧ ∃ c d e, ρ = [some V, some K, some (.lst (bs.map tupI)), some (tupI one), some (tupI other), c, d, e, none, none, none]
theorem broken_bases_ok (hT : T "broken_bases" = some f_broken_bases) {size : Int} {rank : Nat} (hr : rank < 1000) {D : PV} {g : List Int → Int} (hb : (lotsN size rank).length ≤ 16777216) (hg : ∀ l ∈ lotsN size rank, subG D (tupI l) s = some (.int (g l))) :
    run T (n + 1) "broken_bases" [.lst ((lotsN size rank).map tupI), D] s = .ok ((brkB g (basesG g (lotsN size rank))).getD .non) s := by
  rw [run_mk hT rfl]
  generalize hV : PV.lst ((lotsN size rank).map tupI) = V
  generalize hbs : basesG g (lotsN size rank) = bs
  have hin : ∀ x ∈ bs, x ∈ lotsN size rank := fun x hx => by rw [← hbs] at hx; exact (List.mem_filter.mp hx).1
  have C := comp_bases (s := s) (Φ := run T n) (ρ := [some V, some D, none, none, none, none, none, none, none, none, none]) (j := 8) (jk := 1) g (lotsN size rank) D (fun x => ⟨[some V, some D, none, none, none, none, none, none, some (tupI x), none, none], by simp, rfl, rfl⟩) hg
  have hbs' : (lotsN size rank).filter (fun l => decide (g l ≠ 0)) = bs := hbs
  rw [hbs'] at C
  have M := mkLst_f (s := s) (vs := bs.map tupI) (by
    rw [List.length_map, ← hbs]
    exact Nat.le_trans (List.length_filter_le _ _) hb)
  have W : Looks (IB V D bs s) (fun _ s' => s' = s) (brkB g bs) (forGo [] (fun x ρ => evTg (run T n) (.nm 3) x ρ) (exSs (run T n) bb3) (bs.map tupI) [some V, some D, some (.lst (bs.map tupI)), none, none, none, none, none, none, none, none] s) := by
    refine forGo_look (IB V D bs s) _ _ (fun _ _ _ => rfl) bs (fun one h1 ρ s' ⟨es, a, b, c, d, e, eρ⟩ => ?_) _ _ ⟨rfl, none, none, none, none, none, rfl⟩
    subst es eρ
    refine ⟨[some V, some D, some (.lst (bs.map tupI)), some (tupI one), b, c, d, e, none, none, none], s', by simp, ?_⟩
    rw [exSs_cons, exS_forr]
    simp only [evIt_val, evE_var, List.getElem?_cons_succ, List.getElem?_cons_zero, Option.join_some, oR_some, bR_ok, seqOf_lst, Option.map_some, watch_lst, sR_ok]
    refine Looks.nil (Looks.imp (I := IB1 V D bs one s') (forGo_look (IB1 V D bs one s') _ _ (fun _ _ _ => rfl) bs (fun other h2 ρ s'' ⟨es, b, c, d, e, eρ⟩ => ?_) _ _ ⟨rfl, b, c, d, e, rfl⟩) fun ρ s'' ⟨es, b, c, d, e, eρ⟩ => ⟨es, _, b, c, d, e, eρ⟩) _
    subst es eρ
    refine ⟨[some V, some D, some (.lst (bs.map tupI)), some (tupI one), some (tupI other), c, d, e, none, none, none], s'', by simp, ?_⟩
    rw [exSs_cons, exS_forr]
    simp only [evIt_val, evE_var, List.getElem?_cons_succ, List.getElem?_cons_zero, Option.join_some, oR_some, bR_ok, seqOf_tupI, Option.map_some, watch_tupI, sR_ok]
    refine Looks.nil (Looks.imp (I := IB2 V D bs one other s'') (forGo_look (IB2 V D bs one other s'') _ _ (fun _ _ _ => rfl) one (fun gone h3 ρ s3 ⟨es, c, d, e, eρ⟩ => ?_) _ _ ⟨rfl, c, d, e, rfl⟩) fun ρ s'' ⟨es, c, d, e, eρ⟩ => ⟨es, _, c, d, e, eρ⟩) _
    subst es eρ
    refine ⟨[some V, some D, some (.lst (bs.map tupI)), some (tupI one), some (tupI other), some (.int gone), d, e, none, none, none], s3, by simp, ?_⟩
    unfold brk1
    by_cases hgo : gone ∈ other
    · rw [if_pos hgo]
      exact ⟨[some V, some D, some (.lst (bs.map tupI)), some (tupI one), some (tupI other), some (.int gone), d, e, none, none, none], s3, by simp [hgo], rfl, _, _, _, rfl⟩
    · rw [if_neg hgo]
      have l1 := mem_lots.mp (hin one h1)
      have C1 := comp_left (s := s3) (Φ := run T n) (ρ := [some V, some D, some (.lst (bs.map tupI)), some (tupI one), some (tupI other), some (.int gone), d, e, none, none, none]) (j := 9) (jg := 5) one gone fun x => ⟨[some V, some D, some (.lst (bs.map tupI)), some (tupI one), some (tupI other), some (.int gone), d, e, none, some (.int x), none], by simp, rfl, rfl⟩
      have hll : (leftOf one gone).length ≤ one.length := List.length_filter_le _ _
      have M1 := mkLst_f (s := s3) (vs := (leftOf one gone).map .int) (by rw [List.length_map]; omega)
      have C2 := comp_more (s := s3) (Φ := run T n) (ρ := [some V, some D, some (.lst (bs.map tupI)), some (tupI one), some (tupI other), some (.int gone), some (.lst ((leftOf one gone).map .int)), e, none, none, none]) (j := 10) (jo := 3) (jk := 1) (jl := 6) (el := .var 10) g one other gone D (fun x => x) (by omega) (fun x => ⟨[some V, some D, some (.lst (bs.map tupI)), some (tupI one), some (tupI other), some (.int gone), some (.lst ((leftOf one gone).map .int)), e, none, none, some (.int x)], by simp, rfl, rfl, rfl, rfl, by simp⟩)
        fun more hm ho => hg _ (swap_lot (hin one h1) (hin other h2) h3 hm ho)
      rw [List.map_id'] at C2
      have hlo : (swaps g one other gone).length ≤ other.length := List.length_filter_le _ _
      have l2 := mem_lots.mp (hin other h2)
      have M2 := mkLst_f (s := s3) (vs := (swaps g one other gone).map .int) (by rw [List.length_map]; omega)
      by_cases he : swaps g one other gone = []
      · rw [if_pos he]
        rw [he, List.map_nil] at C2 M2
        refine ⟨s3, ?_, rfl⟩
        have q := eq_ints0 (s := s3) (a := [])
        rw [List.map_nil] at q
        simp [hgo, wipe, C1, M1, C2, q]
      · rw [if_neg he]
        refine ⟨_, s3, ?_, rfl, some (.int gone), some (.lst ((leftOf one gone).map .int)), some (.lst ((swaps g one other gone).map .int)), rfl⟩
        simp [hgo, wipe, C1, M1, C2, M2, he]
  have fin : ∀ (o : Option PV) (r : SR), Looks (IB V D bs s) (fun _ s' => s' = s) o r → rR false s (kR r (exSs (run T n) (.cons (.ret .non) .nil))) = .ok (o.getD .non) s := fun o r h => by
    cases o with
    | some v =>
      obtain ⟨s', e, hb⟩ := h
      subst hb
      rw [e]; simp
    | none =>
      obtain ⟨ρ', s', e, hb, _⟩ := h
      subst hb
      rw [e]; simp
  refine Eq.trans ?_ (fin _ _ W)
  have hVs : seqOf s V = some ((lotsN size rank).map tupI) := by rw [← hV]; rfl
  have hVw : watch s V = [] := by rw [← hV]; rfl
  simp only [start, List.map_cons, List.map_nil, List.length_cons, List.length_nil, List.cons_append, List.nil_append, Nat.zero_add, Nat.reduceAdd, Nat.reduceSub, List.reduceReplicate]
  rw [exSs_cons, exS_asg, evE_lc]
  simp only [evIt_val, evE_var, List.getElem?_cons_succ, List.getElem?_cons_zero, Option.join_some, oR_some, bR_ok, hVs, hVw, Option.map_some, wipe, List.map_cons, List.map_nil, List.set_cons_succ, List.set_cons_zero, C, lR_ok, M, sR_ok, evTg_nm]
  simp
/-! ### three terms -/
def restOf (size : Int) (common : List Int) : List Int := (rgN 0 size).filter fun x => decide (x ∉ common)
def pickL (rest spots : List Int) : List Int := spots.map fun sp => rest.getD sp.toNat 0
def prods (g : List Int → Int) (common : List Int) (a b c d : Int) : List Int := [sgnG g (common ++ [a, b]) * sgnG g (common ++ [c, d]), -(sgnG g (common ++ [a, c]) * sgnG g (common ++ [b, d])), sgnG g (common ++ [a, d]) * sgnG g (common ++ [b, c])]
def brk3 (g : List Int → Int) (common : List Int) : List Int → Option PV
  | [a, b, c, d] => if (decide (1 ∈ prods g common a b c d) != decide (-1 ∈ prods g common a b c d)) = true then some (.tup [.str "three", tupI common, tupI [a, b, c, d]]) else none
  | _ => none
def brkC (g : List Int → Int) (size : Int) (common : List Int) : Option PV := (lotsN (restOf size common).length 4).findSome? fun spots => brk3 g common (pickL (restOf size common) spots)
def brkT (g : List Int → Int) (size : Int) (rank : Nat) : Option PV := if 2 ≤ rank then (lotsN size (rank - 2)).findSome? fun common => brkC g size common else none
/-- the dict's signs at ascending tuples -/
def Gd (D : PV) (g : List Int → Int) (L : List (List Int)) : Prop := ∀ s, ∀ l ∈ L, subG D (tupI l) s = some (.int (g l)) ∧ -1 ≤ g l ∧ g l ≤ 1
theorem sgnG_sg {D : PV} {g : List Int → Int} {size : Int} {rank : Nat} (hg : Gd D g (lotsN size rank)) {l : List Int} (hl : l.length = rank) (hb : ∀ x ∈ l, 0 ≤ x ∧ x < size) : -1 ≤ sgnG g l ∧ sgnG g l ≤ 1 := by
  unfold sgnG
  by_cases h : l.Nodup
  · rw [if_pos h]
    have := (hg [] _ (sortI_lot h hl hb)).2
    rcases sgL_one l with e | e <;> rw [e] <;> omega
  · rw [if_neg h]; decide
theorem small_of {i : Int} (h : -1 ≤ i ∧ i ≤ 1) : small64 i = true := by
  unfold small64
  exact decide_eq_true (by omega)
theorem mul_sg {i j : Int} (h : -1 ≤ i ∧ i ≤ 1) (h' : -1 ≤ j ∧ j ≤ 1) : -1 ≤ i * j ∧ i * j ≤ 1 := by
  have a : i = -1 ∨ i = 0 ∨ i = 1 := by omega
  rcases a with e | e | e <;> subst e <;> omega
theorem ne_bl {a b : Bool} : cop .ne (.bl a) (.bl b) s = some (a != b) := by
  cases a <;> cases b <;> rfl
theorem three_products_ok (hT : TabT T) {D : PV} {g : List Int → Int} {size : Int} {rank : Nat} (hg : Gd D g (lotsN size rank)) {common : List Int} {a b c d : Int} (hl : common.length + 2 = rank) (hr : rank < 1000) (hb : ∀ x ∈ common ++ [a, b, c, d], 0 ≤ x ∧ x < size) :
    run T (n + 3) "three_products" [D, tupI common, tupI [a, b, c, d]] s = .ok (.lst ((prods g common a b c d).map .int)) s := by
  rw [run_mk hT.three rfl]
  have B : ∀ x y, x ∈ [a, b, c, d] → y ∈ [a, b, c, d] → (∀ z ∈ common ++ [x, y], 0 ≤ z ∧ z < size) := fun x y hx hy z hz => by
    refine hb z ?_
    rcases List.mem_append.mp hz with q | q
    · exact List.mem_append_left _ q
    · refine List.mem_append_right _ ?_
      rcases List.mem_cons.mp q with q | q
      · rw [q]; exact hx
      · rw [List.mem_singleton.mp q]; exact hy
  have L : ∀ x y : Int, (common ++ [x, y]).length = rank := fun x y => by rw [List.length_append]; exact hl
  have S : ∀ x y, x ∈ [a, b, c, d] → y ∈ [a, b, c, d] → run T (n + 2) "sign_by" [D, tupI (common ++ [x, y])] s = .ok (.int (sgnG g (common ++ [x, y]))) s := fun x y hx hy => sign_by_ok hT (g := g) fun hn => (hg s _ (sortI_lot hn (L x y) (B x y hx hy))).1
  have A : ∀ x y : Int, bop .add (tupI common) (.tup [.int x, .int y]) s = some (tupI (common ++ [x, y])) := fun x y => add_tupI2 (by omega)
  have Z : ∀ x y, x ∈ [a, b, c, d] → y ∈ [a, b, c, d] → ∀ j, bop .mul (.int (sgnG g (common ++ [x, y]))) (.int j) s = some (.int (sgnG g (common ++ [x, y]) * j)) := fun x y hx hy j => mulL_ (small_of (sgnG_sg hg (L x y) (B x y hx hy)))
  have ht : tupI [a, b, c, d] = .tup [.int a, .int b, .int c, .int d] := rfl
  have M := fun x y z => mkLst_f (s := s) (vs := [PV.int x, .int y, .int z]) (by simp)
  rw [ht]
  simp [start, A, S, Z, M, prods]
theorem brk3_eq (g : List Int → Int) (common : List Int) (a b c d : Int) : brk3 g common [a, b, c, d] = if (decide (1 ∈ prods g common a b c d) != decide (-1 ∈ prods g common a b c d)) = true then some (.tup [.str "three", tupI common, tupI [a, b, c, d]]) else none := rfl
theorem mem_restOf {size x : Int} {common : List Int} : x ∈ restOf size common ↔ (0 ≤ x ∧ x < size) ∧ x ∉ common := by
  unfold restOf
  rw [List.mem_filter, mem_rgN]
  simp
theorem rgN_asc : ∀ (k : Nat) (i : Int), Asc (rgN i (i + k))
  | 0, i => by rw [rgN_nil (by omega)]; exact List.Pairwise.nil
  | k + 1, i => by
    rw [rgN_cons (by omega)]
    have ih := rgN_asc k (i + 1)
    have e : i + 1 + (k : Int) = i + ((k + 1 : Nat) : Int) := by omega
    rw [e] at ih
    exact List.pairwise_cons.mpr ⟨fun y hy => by have := mem_rgN.mp hy; omega, ih⟩
theorem rgN_asc' (i j : Int) : Asc (rgN i j) := by
  by_cases h : i ≤ j
  · have := rgN_asc (j - i).toNat i
    rwa [show i + ((j - i).toNat : Int) = j by omega] at this
  · rw [rgN_nil (by omega)]; exact List.Pairwise.nil
theorem restOf_asc (size : Int) (common : List Int) : Asc (restOf size common) := (rgN_asc' 0 size).filter _
theorem restOf_len {size : Int} {common : List Int} (h0 : 0 ≤ size) : (restOf size common).length ≤ size.toNat := by
  have := List.length_filter_le (fun x => decide (x ∉ common)) (rgN 0 size)
  rw [rgN_length] at this
  unfold restOf
  omega
theorem four_of {l : List Int} (h : l.length = 4) : ∃ a b c d, l = [a, b, c, d] := by
  match l, h with
  | [a, b, c, d], _ => exact ⟨a, b, c, d, rfl⟩
theorem pickL_mem {rest spots : List Int} (h : ∀ x ∈ spots, 0 ≤ x ∧ x < rest.length) : ∀ y ∈ pickL rest spots, y ∈ rest := by
  intro y hy
  obtain ⟨sp, h1, e⟩ := List.mem_map.mp hy
  have := h sp h1
  have hl : sp.toNat < rest.length := by omega
  rw [List.getD_eq_getElem?_getD, List.getElem?_eq_getElem hl] at e
  subst e
  exact List.getElem_mem _
/-- [element for element in range(size) if element not in common] -/
theorem comp_rest {Φ : Str → List PV → M PV} {ρ : Env} {j jc : Nat} (size : Int) (common : List Int) (hw : ∀ x : Int, ∃ ρ1, evTg Φ (.nm j) (.int x) ρ s = .ok ρ1 s ∧ ρ1[j]?.join = some (.int x) ∧ ρ1[jc]?.join = some (tupI common)) : compGo [] (fun x => evTg Φ (.nm j) x ρ) (evIf Φ (.cons (.cmp .notin (.var j) (.var jc)) .nil)) (fun ρ => (evE Φ (.var j) ρ).bnd fun y => M.ret [y]) ((rgN 0 size).map .int) s = .ok ((restOf size common).map .int) s := by
  refine compGo_filter (enc := PV.int) _ _ rfl (rgN 0 size) fun x hx => ?_
  obtain ⟨ρ1, e1, e2, e3⟩ := hw x
  refine ⟨ρ1, e1, ?_, fun _ => by simp [e2]⟩
  simp only [evIf_cons, evE_cmp, evE_var, e2, e3, oR_some, bR_ok, notin_tupI, Option.map_some, truth_bl]
/-- [rest[spot] for spot in spots] -/
theorem comp_pick {Φ : Str → List PV → M PV} {ρ : Env} {j jr : Nat} (rest spots : List Int) (hsp : ∀ x ∈ spots, 0 ≤ x ∧ x < rest.length) (hw : ∀ x : Int, ∃ ρ1, evTg Φ (.nm j) (.int x) ρ s = .ok ρ1 s ∧ ρ1[j]?.join = some (.int x) ∧ ρ1[jr]?.join = some (.lst (rest.map .int))) : compGo [] (fun x => evTg Φ (.nm j) x ρ) (evIf Φ .nil) (fun ρ => (evE Φ (.sub (.var jr) (.var j)) ρ).bnd fun y => M.ret [y]) (spots.map .int) s = .ok ((pickL rest spots).map .int) s := by
  unfold pickL
  rw [List.map_map]
  refine compGo_map (enc := PV.int) _ rfl spots fun x hx => ?_
  obtain ⟨ρ1, e1, e2, e3⟩ := hw x
  have hx' := hsp x hx
  refine ⟨ρ1, e1, by simp, ?_⟩
  have z : subG (.lst (rest.map PV.int)) (.int x) s = some (.int (rest.getD x.toNat 0)) := by
    rw [sub_lst, atI_in hx'.1 (by rw [List.length_map]; exact hx'.2)]
    have hl : x.toNat < rest.length := by omega
    simp [List.getD_eq_getElem?_getD, List.getElem?_eq_getElem hl]
  simp [e2, e3, z]
abbrev bt1 : Ss := .cons (.asg (.nm 6) (.bi .tuple (.cons (.lc false (.sub (.var 4) (.var 9)) (.nm 9) (.val (.var 5)) .nil [("spot", 9)]) .nil))) (.cons (.asg (.nm 7) (.call "three_products" (.cons (.var 2) (.cons (.var 3) (.cons (.var 6) .nil))))) (.cons (.iff (.cmp .ne (.cmp .isin (.int 1) (.var 7)) (.cmp .isin (.neg (.int 1)) (.var 7))) (.cons (.ret (.tup (.cons (.str "three") (.cons (.var 3) (.cons (.var 6) .nil))))) .nil) .nil) .nil))
abbrev bt2 : Ss := .cons (.asg (.nm 4) (.lc false (.var 8) (.nm 8) (.rng1 (.var 0)) (.cons (.cmp .notin (.var 8) (.var 3)) .nil) [("element", 8)])) (.cons (.forr (.nm 5) (.val (.call "lots_of" (.cons (.bi .len (.cons (.var 4) .nil)) (.cons (.int 4) .nil)))) bt1) .nil)
def IT (S R K : PV) (s : Store) : Env → Store → Prop := fun ρ s' => s' = s ∧ ∃ a b c d e, ρ = [some S, some R, some K, a, b, c, d, e, none, none]
def IT1 (S R K C W : PV) (s : Store) : Env → Store → Prop := fun ρ s' => s' = s ∧ ∃ c d e, ρ = [some S, some R, some K, some C, some W, c, d, e, none, none]
theorem brkL (hT : TabT T) {size : Int} {rank : Nat} (hs0 : 0 ≤ size) (hs : size < 1000) (h2 : 2 ≤ rank) (hr : rank < 1000) {D : PV} {g : List Int → Int} (hg : Gd D g (lotsN size rank)) (hb4 : ∀ m : Nat, (m : Int) ≤ size → ∀ k, k ≤ 4 → (lotsN m k).length ≤ 16777216) {R : PV} :
    ∀ ρ : Env, IT (.int size) R D s ρ s → Looks (IT (.int size) R D s) (fun _ s' => s' = s) ((lotsN size (rank - 2)).findSome? fun common => brkC g size common) (forGo [] (fun x ρ => evTg (run T (n + 3)) (.nm 3) x ρ) (exSs (run T (n + 3)) bt2) ((lotsN size (rank - 2)).map tupI) ρ s) := by
  intro ρ hρ
  refine forGo_look (IT (.int size) R D s) _ _ (fun _ _ _ => rfl) _ (fun common h1 ρ s' ⟨es, a, b, c, d, e, eρ⟩ => ?_) _ _ hρ
  subst es eρ
  refine ⟨[some (.int size), some R, some D, some (tupI common), b, c, d, e, none, none], s', by simp, ?_⟩
  have C := comp_rest (s := s') (Φ := run T (n + 3)) (ρ := [some (.int size), some R, some D, some (tupI common), b, c, d, e, none, none]) (j := 8) (jc := 3) size common fun x => ⟨[some (.int size), some R, some D, some (tupI common), b, c, d, e, some (.int x), none], by simp, rfl, rfl⟩
  have w := evIt_rng1_of (Φ := run T (n + 3)) (b := .var 0) (ρ := [some (.int size), some R, some D, some (tupI common), b, c, d, e, none, none]) (s := s') (j := size) (by simp) (by omega) (by omega)
  have hrl := restOf_len (common := common) hs0
  have M := mkLst_f (s := s') (vs := (restOf size common).map .int) (by rw [List.length_map]; omega)
  have lo := lots_of_ok hT (n := n + 1) (s := s') (size := (restOf size common).length) (many := 4) (by omega) (by omega) (by omega) (hb4 _ (by omega))
  have lo' : run T (n + 3) "lots_of" [.int (restOf size common).length, .int 4] s' = _ := lo
  have hlen := fun x (h : x ∈ restOf size common) => mem_restOf.mp h
  unfold brkC
  have hrest : ∀ x ∈ restOf size common, 0 ≤ x ∧ x < size := fun x hx => (mem_restOf.mp hx).1
  generalize hRe : restOf size common = rest at *
  have l1 := mem_lots.mp h1
  have W : Looks (IT1 (.int size) R D (tupI common) (.lst (rest.map .int)) s') (fun _ s'' => s'' = s') ((lotsN rest.length 4).findSome? fun spots => brk3 g common (pickL rest spots)) (forGo [] (fun x ρ => evTg (run T (n + 3)) (.nm 5) x ρ) (exSs (run T (n + 3)) bt1) ((lotsN rest.length 4).map tupI) [some (.int size), some R, some D, some (tupI common), some (.lst (rest.map .int)), c, d, e, none, none] s') := by
    refine forGo_look _ _ _ (fun _ _ _ => rfl) _ (fun spots h2 ρ s'' ⟨es, c, d, e, eρ⟩ => ?_) _ _ ⟨rfl, c, d, e, rfl⟩
    subst es eρ
    refine ⟨[some (.int size), some R, some D, some (tupI common), some (.lst (rest.map .int)), some (tupI spots), d, e, none, none], s'', by simp, ?_⟩
    have l2 := mem_lots.mp h2
    have P := comp_pick (s := s'') (Φ := run T (n + 3)) (ρ := [some (.int size), some R, some D, some (tupI common), some (.lst (rest.map .int)), some (tupI spots), d, e, none, none]) (j := 9) (jr := 4) rest spots l2.2.2 fun x => ⟨[some (.int size), some R, some D, some (tupI common), some (.lst (rest.map .int)), some (tupI spots), d, e, none, some (.int x)], by simp, rfl, rfl⟩
    have hp := pickL_mem l2.2.2
    have hpl : (pickL rest spots).length = 4 := by unfold pickL; rw [List.length_map]; exact l2.1
    have M2 := mkLst_f (s := s'') (vs := (pickL rest spots).map .int) (by rw [List.length_map]; omega)
    obtain ⟨x, y, z, w, e4⟩ := four_of hpl
    rw [e4] at P M2 hp ⊢
    have TP := three_products_ok hT (n := n) (s := s'') hg (common := common) (a := x) (b := y) (c := z) (d := w) (by omega) hr fun u hu => by
      rcases List.mem_append.mp hu with q | q
      · exact l1.2.2 u q
      · exact hrest u (hp u q)
    have I1 := in_ints (s := s'') (x := 1) (l := prods g common x y z w)
    have I2 := in_ints (s := s'') (x := -1) (l := prods g common x y z w)
    generalize hlp : prods g common x y z w = pr at *
    have TI := tuple_ints (s := s'') (l := [x, y, z, w])
    rw [brk3_eq, hlp]
    generalize hli : [x, y, z, w] = li at *
    by_cases hc : (decide (1 ∈ pr) != decide (-1 ∈ pr)) = true
    · rw [if_pos hc]
      refine ⟨s'', ?_, rfl⟩
      simp [-tuple_lst, -in_ints, -bne_iff_ne, wipe, P, M2, TI, TP, I1, I2, ne_bl, hc]
    · rw [if_neg hc]
      refine ⟨[some (.int size), some R, some D, some (tupI common), some (.lst (rest.map .int)), some (tupI spots), some (tupI li), some (.lst (pr.map .int)), none, none], s'', ?_, rfl, _, _, _, rfl⟩
      have hc := Bool.eq_false_iff.mpr hc
      simp [-tuple_lst, -in_ints, -bne_iff_ne, wipe, P, M2, TI, TP, I1, I2, ne_bl, hc]
  have W' := (Looks.nil (W.imp (I' := IT (.int size) R D s') fun ρ s'' ⟨es, c, d, e, eρ⟩ => ⟨es, _, _, c, d, e, eρ⟩) (run T (n + 3)))
  rw [exSs_cons, exS_asg, evE_lc, w]
  simp only [bR_ok, wipe, List.map_cons, List.map_nil, List.set_cons_succ, List.set_cons_zero, C, lR_ok, M, sR_ok, evTg_nm]
  simp only [List.length_cons, List.length_nil, Nat.reduceAdd, Nat.reduceLT, if_true, tR_ok, kR_nx]
  rw [exSs_cons, exS_forr]
  simp only [evIt_val, evE_call, evEs_cons, evEs_nil, evE_bi, evE_var, evE_int, List.getElem?_cons_succ, List.getElem?_cons_zero, Option.join_some, oR_some, bR_ok, len_lst, List.length_map, lo', seqOf_lst, Option.map_some, watch_lst, sR_ok]
  exact W'
theorem look_end {I : Env → Store → Prop} {o : Option PV} {r : SR} {Φ : Str → List PV → M PV} (h : Looks I (fun _ s' => s' = s) o r) (hi : ∀ ρ s', I ρ s' → s' = s) : rR false s (kR r (exSs Φ (.cons (.ret .non) .nil))) = .ok (o.getD .non) s := by
  cases o with
  | some v =>
    obtain ⟨s', e, hb⟩ := h
    subst hb
    rw [e]; simp
  | none =>
    obtain ⟨ρ', s', e, hb⟩ := h
    have hb := hi _ _ hb
    subst hb
    rw [e]; simp
theorem broken_threes_ok (hT : TabT T) {size : Int} {rank : Nat} (hs0 : 0 ≤ size) (hs : size < 1000) (hr : rank < 1000) {D : PV} {g : List Int → Int} (hg : Gd D g (lotsN size rank)) (hb : ∀ k, k ≤ rank → (lotsN size k).length ≤ 16777216) (hb4 : ∀ m : Nat, (m : Int) ≤ size → ∀ k, k ≤ 4 → (lotsN m k).length ≤ 16777216) :
    run T (n + 4) "broken_threes" [.int size, .int rank, D] s = .ok ((brkT g size rank).getD .non) s := by
  rw [run_mk hT.bthrees rfl]
  simp only [start, List.map_cons, List.map_nil, List.length_cons, List.length_nil, List.cons_append, List.nil_append, Nat.zero_add, Nat.reduceAdd, Nat.reduceSub, List.reduceReplicate]
  rw [exSs_cons, exS_forr]
  unfold brkT
  by_cases h2 : 2 ≤ rank
  · rw [if_pos h2]
    have lo := lots_of_ok hT (n := n + 1) (s := s) (size := size) (many := rank - 2) hs0 hs (by omega) fun k hk => hb k (by omega)
    have e2 : (rank : Int) - 2 = ((rank - 2 : Nat) : Int) := by omega
    have h1 : (1 : Int) < rank := by omega
    have W := brkL hT (n := n) (s := s) hs0 hs h2 hr hg hb4 (R := .int rank) [some (.int size), some (.int rank), some D, none, none, none, none, none, none, none] ⟨rfl, none, none, none, none, none, rfl⟩
    have E := look_end (Φ := run T (n + 3)) W fun _ _ h => h.1
    refine Eq.trans ?_ E
    simp [-exS_forr, -exSs_cons, h1, e2, lo]
  · rw [if_neg h2]
    have h1 : ¬ (1 : Int) < rank := by omega
    simp [-exS_forr, -exSs_cons, h1]
    rw [forGo_nil rfl]
    simp
theorem broken_at_ok (hT : TabT T) {size : Int} {rank : Nat} (hs0 : 0 ≤ size) (hs : size < 1000) (hr : rank < 1000) {sg : List Int} (hsg : SgL sg) (hl : (lotsN size rank).length = sg.length) (hb : ∀ k, k ≤ rank → (lotsN size k).length ≤ 16777216) (hb4 : ∀ m : Nat, (m : Int) ≤ size → ∀ k, k ≤ 4 → (lotsN m k).length ≤ 16777216) :
    run T (n + 5) "broken_at" [.int size, .int rank, tupI sg] s = .ok ((brkB (look (lotsN size rank) sg) (basesG (look (lotsN size rank) sg) (lotsN size rank)) <|> brkT (look (lotsN size rank) sg) size rank).getD .non) s := by
  rw [run_mk hT.broken rfl]
  have hg : Gd (dicL (lotsN size rank) sg) (look (lotsN size rank) sg) (lotsN size rank) := fun s l h => ⟨sub_dicL hl h, hsg _ (look_mem _ _ _ hl h)⟩
  have lo := lots_of_ok hT (n := n + 2) (s := s) (size := size) (many := rank) hs0 hs hr hb
  have dz := dzip_ok (s := s) (v := tupI sg) (lots_nodup rank) hl rfl
  have b1 := broken_bases_ok hT.bbases (n := n + 3) (s := s) (size := size) hr (hb rank (Nat.le_refl _)) fun l h => (hg s l h).1
  have b2 := broken_threes_ok hT (n := n) (s := s) hs0 hs hr hg hb hb4
  have mk : mkDic false true ((lotsN size rank).map tupI, sg.map .int) s = .ok (dicL (lotsN size rank) sg) s := rfl
  generalize dicL (lotsN size rank) sg = D at *
  generalize look (lotsN size rank) sg = g at *
  generalize hB : brkB g (basesG g (lotsN size rank)) = B at *
  have hBn : ∀ v, B = some v → ∃ l, v = .tup l := fun v h => by
    rw [h] at hB
    obtain ⟨one, _, h1⟩ := List.exists_of_findSome?_eq_some hB
    obtain ⟨other, _, h2⟩ := List.exists_of_findSome?_eq_some h1
    obtain ⟨gone, _, h3⟩ := List.exists_of_findSome?_eq_some h2
    unfold brk1 at h3
    split at h3
    · cases h3
    · split at h3
      · exact ⟨_, (Option.some.inj h3).symm⟩
      · cases h3
  cases B with
  | none =>
    have q : cop .isnot .non .non s = some false := rfl
    simp [start, lo, dz, mk, b1, q, b2]
  | some v =>
    obtain ⟨l, e⟩ := hBn v rfl
    subst e
    have q : cop .isnot (.tup l) .non s = some true := rfl
    simp [start, lo, dz, mk, b1, q, b2]
theorem lots_le126 : ∀ m < 10, ∀ k < 10, (lotsN ((m : Nat) : Int) k).length ≤ 126 := by decide +kernel
theorem lots_le {size : Int} (h0 : 0 ≤ size) (h9 : size ≤ 9) {k : Nat} (hk : k ≤ 9) : (lotsN size k).length ≤ 126 := by
  have := lots_le126 size.toNat (by omega) k (by omega)
  rwa [show ((size.toNat : Nat) : Int) = size by omega] at this
def brkA (size : Int) (rank : Nat) (sg : List Int) : PV := (brkB (look (lotsN size rank) sg) (basesG (look (lotsN size rank) sg) (lotsN size rank)) <|> brkT (look (lotsN size rank) sg) size rank).getD .non
theorem first_broken_ok (hT : TabT T) {size : Int} {rank : Nat} (hs0 : 0 ≤ size) (hs : size ≤ 9) (hr : (rank : Int) ≤ size) {sg : List Int} (hsg : SgL sg) (hl : (lotsN size rank).length = sg.length) (hn : fstN sg = 1) :
    run T (n + 6) "first_broken" [.int size, .int rank, tupI sg] s = .ok (brkA size rank sg) s := by
  rw [run_mk hT.first rfl]
  have hb : ∀ k, k ≤ rank → (lotsN size k).length ≤ 16777216 := fun k hk => Nat.le_trans (lots_le hs0 hs (by omega)) (by decide)
  have hb4 : ∀ m : Nat, (m : Int) ≤ size → ∀ k, k ≤ 4 → (lotsN m k).length ≤ 16777216 := fun m hm k hk => Nat.le_trans (lots_le (by omega) (by omega) (by omega)) (by decide)
  have a := shape_ok hT (n := n + 2) (s := s) hs0 hs (by omega) hr
  have b := nsigns_ok hT (n := n + 1) (s := s) hs0 (by omega) (by omega) hb hl.symm hsg hn
  have c := broken_at_ok hT (n := n) (s := s) hs0 (by omega) (by omega) hsg hl hb hb4
  unfold brkA
  simp [start, a, b, c]
/-! ### the law's own first place -/
abbrev lb1 : Ss := .cons (.asg (.nm 9) (.lc false (.var 20) (.nm 20) (.val (.var 6)) (.cons (.cmp .ne (.var 20) (.var 8)) .nil) [("element", 20)])) (.cons (.iff (.cmp .eq (.lc false (.int 1) (.nm 21) (.val (.var 7)) (.cons (.and (.cmp .notin (.var 21) (.var 6)) (.cmp .ne (.sub (.var 4) (.bi .tuple (.cons (.bi .sorted (.cons (.op .add (.var 9) (.lst false (.cons (.var 21) .nil))) .nil)) .nil))) (.int 0))) .nil) [("more", 21)]) (.lst false .nil)) (.cons (.ret (.tup (.cons (.str "bases") (.cons (.var 6) (.cons (.var 7) (.cons (.var 8) .nil)))))) .nil) .nil) .nil)
abbrev lb2 : Ss := .cons (.forr (.nm 8) (.val (.lc false (.var 20) (.nm 20) (.val (.var 6)) (.cons (.cmp .notin (.var 20) (.var 7)) .nil) [("element", 20)])) lb1) .nil
abbrev lb3 : Ss := .cons (.forr (.nm 7) (.val (.var 5)) lb2) .nil
def ILx (S R G V D : PV) (bs : List (List Int)) (a b c d : Option PV) : Env := [some S, some R, some G, some V, some D, some (.lst (bs.map tupI)), a, b, c, d, none, none, none, none, none, none, none, none, none, none, none, none, none, none]
theorem comp_notin {Φ : Str → List PV → M PV} {ρ : Env} {j jo : Nat} (one other : List Int) (hw : ∀ x : Int, ∃ ρ1, evTg Φ (.nm j) (.int x) ρ s = .ok ρ1 s ∧ ρ1[j]?.join = some (.int x) ∧ ρ1[jo]?.join = some (tupI other)) : compGo [] (fun x => evTg Φ (.nm j) x ρ) (evIf Φ (.cons (.cmp .notin (.var j) (.var jo)) .nil)) (fun ρ => (evE Φ (.var j) ρ).bnd fun y => M.ret [y]) (one.map .int) s = .ok ((one.filter fun x => decide (x ∉ other)).map .int) s := by
  refine compGo_filter (enc := PV.int) _ _ rfl one fun x hx => ?_
  obtain ⟨ρ1, e1, e2, e3⟩ := hw x
  refine ⟨ρ1, e1, ?_, fun _ => by simp [e2]⟩
  simp only [evIf_cons, evE_cmp, evE_var, e2, e3, oR_some, bR_ok, notin_tupI, Option.map_some, truth_bl]
theorem brk1_filter (g : List Int → Int) (one other : List Int) : one.findSome? (fun gone => brk1 g one other gone) = (one.filter fun x => decide (x ∉ other)).findSome? fun gone => if swaps g one other gone = [] then some (.tup [.str "bases", tupI one, tupI other, .int gone]) else none := by
  rw [findSome?_filter']
  congr 1
  funext gone
  unfold brk1
  by_cases h : gone ∈ other <;> simp [h]
theorem lawB {size : Int} {rank : Nat} (hr : rank < 1000) {D : PV} {g : List Int → Int} (hg : Gd D g (lotsN size rank)) {S R G V : PV} {bs : List (List Int)} (hin : ∀ x ∈ bs, x ∈ lotsN size rank) {Φ : Str → List PV → M PV} :
    Looks (fun ρ s' => s' = s ∧ ∃ a b c d, ρ = ILx S R G V D bs a b c d) (fun _ s' => s' = s) (brkB g bs) (forGo [] (fun x ρ => evTg Φ (.nm 6) x ρ) (exSs Φ lb3) (bs.map tupI) (ILx S R G V D bs none none none none) s) := by
  refine forGo_look (fun ρ s' => s' = s ∧ ∃ a b c d, ρ = ILx S R G V D bs a b c d) _ _ (fun _ _ _ => rfl) bs (fun one h1 ρ s' ⟨es, a, b, c, d, eρ⟩ => ?_) _ _ ⟨rfl, none, none, none, none, rfl⟩
  subst es eρ
  refine ⟨ILx S R G V D bs (some (tupI one)) b c d, s', by simp [ILx], ?_⟩
  rw [exSs_cons, exS_forr]
  simp only [ILx, evIt_val, evE_var, List.getElem?_cons_succ, List.getElem?_cons_zero, Option.join_some, oR_some, bR_ok, seqOf_lst, Option.map_some, watch_lst, sR_ok]
  refine Looks.nil (Looks.imp (I := fun ρ s'' => s'' = s' ∧ ∃ b c d, ρ = ILx S R G V D bs (some (tupI one)) b c d) (forGo_look _ _ _ (fun _ _ _ => rfl) bs (fun other h2 ρ s'' ⟨es, b, c, d, eρ⟩ => ?_) _ _ ⟨rfl, b, c, d, rfl⟩) fun ρ s'' ⟨es, b, c, d, eρ⟩ => ⟨es, _, b, c, d, eρ⟩) _
  subst es eρ
  refine ⟨ILx S R G V D bs (some (tupI one)) (some (tupI other)) c d, s'', by simp [ILx], ?_⟩
  have l1 := mem_lots.mp (hin one h1)
  have l2 := mem_lots.mp (hin other h2)
  have N := comp_notin (s := s'') (Φ := Φ) (ρ := ILx S R G V D bs (some (tupI one)) (some (tupI other)) c d) (j := 20) (jo := 7) one other fun x => ⟨(ILx S R G V D bs (some (tupI one)) (some (tupI other)) c d).set 20 (some (.int x)), by simp [ILx], rfl, rfl⟩
  have hfl := List.length_filter_le (fun x => decide (x ∉ other)) one
  have MN := mkLst_f (s := s'') (vs := (one.filter fun x => decide (x ∉ other)).map .int) (by rw [List.length_map]; omega)
  have hfm : ∀ x ∈ one.filter (fun x => decide (x ∉ other)), x ∈ one ∧ x ∉ other := fun x hx => by
    have := List.mem_filter.mp hx
    exact ⟨this.1, by simpa using this.2⟩
  rw [brk1_filter]
  generalize (one.filter fun x => decide (x ∉ other)) = gs at *
  rw [exSs_cons, exS_forr]
  have it : evIt Φ (.val (.lc false (.var 20) (.nm 20) (.val (.var 6)) (.cons (.cmp .notin (.var 20) (.var 7)) .nil) [("element", 20)])) (ILx S R G V D bs (some (tupI one)) (some (tupI other)) c d) s'' = .ok (gs.map .int, []) s'' := by
    rw [evIt_val, evE_lc]
    simp only [ILx] at N
    simp [ILx, wipe, N, MN]
  rw [it, sR_ok]
  refine Looks.nil (Looks.imp (I := fun ρ s3 => s3 = s'' ∧ ∃ c d, ρ = ILx S R G V D bs (some (tupI one)) (some (tupI other)) c d) (forGo_look _ _ _ (fun _ _ _ => rfl) gs (fun gone h3 ρ s3 ⟨es, c, d, eρ⟩ => ?_) _ _ ⟨rfl, c, d, rfl⟩) fun ρ s'' ⟨es, c, d, eρ⟩ => ⟨es, _, c, d, eρ⟩) _
  subst es eρ
  refine ⟨ILx S R G V D bs (some (tupI one)) (some (tupI other)) (some (.int gone)) d, s3, by simp [ILx], ?_⟩
  have C1 := comp_left (s := s3) (Φ := Φ) (ρ := ILx S R G V D bs (some (tupI one)) (some (tupI other)) (some (.int gone)) d) (j := 20) (jg := 8) one gone fun x => ⟨(ILx S R G V D bs (some (tupI one)) (some (tupI other)) (some (.int gone)) d).set 20 (some (.int x)), by simp [ILx], rfl, rfl⟩
  have hll : (leftOf one gone).length ≤ one.length := List.length_filter_le _ _
  have M1 := mkLst_f (s := s3) (vs := (leftOf one gone).map .int) (by rw [List.length_map]; omega)
  have C2 := comp_more (s := s3) (Φ := Φ) (ρ := ILx S R G V D bs (some (tupI one)) (some (tupI other)) (some (.int gone)) (some (.lst ((leftOf one gone).map .int)))) (j := 21) (jo := 6) (jk := 4) (jl := 9) (el := .int 1) g one other gone D (fun _ => 1) (by omega) (fun x => ⟨(ILx S R G V D bs (some (tupI one)) (some (tupI other)) (some (.int gone)) (some (.lst ((leftOf one gone).map .int)))).set 21 (some (.int x)), by simp [ILx], rfl, rfl, rfl, rfl, by simp⟩)
    fun more hm ho => (hg s3 _ (swap_lot (hin one h1) (hin other h2) (hfm _ h3).1 hm ho)).1
  have hlo : (swaps g one other gone).length ≤ other.length := List.length_filter_le _ _
  have M2 := mkLst_f (s := s3) (vs := ((swaps g one other gone).map fun _ => (1 : Int)).map .int) (by rw [List.length_map, List.length_map]; omega)
  have Q := eq_ints0 (s := s3) (a := (swaps g one other gone).map fun _ => (1 : Int))
  have hq : ((swaps g one other gone).map fun _ => (1 : Int)) = [] ↔ swaps g one other gone = [] := List.map_eq_nil_iff
  generalize ((swaps g one other gone).map fun _ => (1 : Int)) = w at *
  simp only [ILx] at C1 C2
  by_cases he : swaps g one other gone = []
  · rw [if_pos he]
    have hw := hq.mpr he
    subst hw
    rw [List.map_nil] at M2 C2 Q
    refine ⟨s3, ?_, rfl⟩
    simp [ILx, wipe, C1, M1, C2, M2, Q]
  · rw [if_neg he]
    have hw : ¬ w = [] := fun e => he (hq.mp e)
    refine ⟨ILx S R G V D bs (some (tupI one)) (some (tupI other)) (some (.int gone)) (some (.lst ((leftOf one gone).map .int))), s3, ?_, rfl, _, _, rfl⟩
    simp [ILx, wipe, C1, M1, C2, M2, hw]
end Mini

set_option Elab.async false
set_option linter.all false
set_option maxRecDepth 100000
/-! MiniB2: the law's own first place at which signs break a rule. -/
namespace Mini
open PySem (Str PyData)
variable {T : Str → Option Fn} {n : Nat} {s : Store}
theorem end_at {s : Store} {o : SO} : (s ++ [o])[s.length]? = some o := by simp
theorem end_set {s : Store} {o o' : SO} : (s ++ [o]).set s.length o' = s ++ [o'] := by
  rw [List.set_append_right _ _ (Nat.le_refl _)]
  simp
theorem app_end {xs : List PV} {y : PV} (h : xs.length < 16777216) : M.liftS (meth .append (.ref s.length) [y]) (s ++ [.lst xs]) = .ok .non (s ++ [.lst (xs ++ [y])]) := by
  rw [app_ref end_at h, end_set]
theorem lstOf_end {xs : List PV} : lstOf (s ++ [.lst xs]) (.ref s.length) = some xs := lstOf_ref end_at
theorem sset_end {l : List Int} (h : l.length < 64) : ssetF (.ref s.length) (s ++ [.lst (l.map .int)]) = some (.lst ((sortI (ddI l)).map .int)) := by
  show ((seqOf (s ++ [.lst (l.map .int)]) (.ref s.length)).bind intsOf).bind _ = _
  rw [seqOf_ref end_at]
  simp only [Option.bind_some, intsOf_ints, h, decide_true, if_true]
theorem sset_in {p q r : Int} (hp : -1 ≤ p ∧ p ≤ 1) (hq : -1 ≤ q ∧ q ≤ 1) (hr : -1 ≤ r ∧ r ≤ 1) : cop .isin (.lst ((sortI (ddI [p, q, r])).map .int)) (.lst [.lst [.int 1], .lst [.int (-1)], .lst [.int 0, .int 1], .lst [.int (-1), .int 0]]) s = some (decide (1 ∈ [p, q, r]) != decide (-1 ∈ [p, q, r])) := by
  have a : p = -1 ∨ p = 0 ∨ p = 1 := by omega
  have b : q = -1 ∨ q = 0 ∨ q = 1 := by omega
  have c : r = -1 ∨ r = 0 ∨ r = 1 := by omega
  rcases a with e | e | e <;> rcases b with e' | e' | e' <;> rcases c with e'' | e'' | e'' <;> subst e e' e'' <;> rfl
abbrev lt1 : Ss := .cons (.ex (.meth .append (.var 16) (.cons (.op .mul (.op .mul (.var 17) (.call "_law_tg_sign" (.cons (.var 4) (.cons (.op .add (.var 10) (.var 18)) .nil)))) (.call "_law_tg_sign" (.cons (.var 4) (.cons (.op .add (.var 10) (.var 7)) .nil)))) .nil))) .nil
abbrev lt2 : Ss := .cons (.asg (.nm 16) (.lst true .nil)) (.cons (.forr (.tp (.cons (.nm 17) (.cons (.nm 18) (.cons (.nm 7) .nil)))) (.val (.lst false (.cons (.tup (.cons (.int 1) (.cons (.tup (.cons (.var 12) (.cons (.var 13) .nil))) (.cons (.tup (.cons (.var 14) (.cons (.var 15) .nil))) .nil)))) (.cons (.tup (.cons (.neg (.int 1)) (.cons (.tup (.cons (.var 12) (.cons (.var 14) .nil))) (.cons (.tup (.cons (.var 13) (.cons (.var 15) .nil))) .nil)))) (.cons (.tup (.cons (.int 1) (.cons (.tup (.cons (.var 12) (.cons (.var 15) .nil))) (.cons (.tup (.cons (.var 13) (.cons (.var 14) .nil))) .nil)))) .nil))))) lt1) (.cons (.iff (.cmp .isin (.sset (.var 16)) (.lst false (.cons (.lst false (.cons (.int 1) .nil)) (.cons (.lst false (.cons (.neg (.int 1)) .nil)) (.cons (.lst false (.cons (.int 0) (.cons (.int 1) .nil))) (.cons (.lst false (.cons (.neg (.int 1)) (.cons (.int 0) .nil))) .nil)))))) (.cons (.ret (.tup (.cons (.str "three") (.cons (.var 10) (.cons (.tup (.cons (.var 12) (.cons (.var 13) (.cons (.var 14) (.cons (.var 15) .nil))))) .nil))))) .nil) .nil) .nil))
abbrev lt3 : Ss := .cons (.asg (.nm 11) (.lc false (.var 20) (.nm 20) (.rng1 (.var 0)) (.cons (.cmp .notin (.var 20) (.var 10)) .nil) [("element", 20)])) (.cons (.forr (.tp (.cons (.nm 12) (.cons (.nm 13) (.cons (.nm 14) (.cons (.nm 15) .nil))))) (.val (.lc false (.bi .tuple (.cons (.lc false (.sub (.var 11) (.var 22)) (.nm 22) (.val (.var 23)) .nil [("spot", 22)]) .nil)) (.nm 23) (.val (.call "_law_tg_lots" (.cons (.bi .len (.cons (.var 11) .nil)) (.cons (.int 4) .nil)))) .nil [("spots", 23)])) lt2) .nil)
/-- the law's names -/
def ILy (S R G V D B : PV) (a6 a7 a8 a9 c r a b p q w t k : Option PV) : Env := [some S, some R, some G, some V, some D, some B, a6, a7, a8, a9, c, r, a, b, p, q, w, t, k, none, none, none, none, none]
theorem law_prod1 (hT : TgT T) {D : PV} {g : List Int → Int} {size : Int} {rank : Nat} (hg : Gd D g (lotsN size rank)) {common four : List Int} (hl : common.length + 2 = rank) (hr : rank < 1000) (hb : ∀ x ∈ common ++ four, 0 ≤ x ∧ x < size) {S R G V B : PV} {a6 a8 a9 rr a b c d : Option PV} {tn x y u v : Int} (ht : small64 tn = true) (ht1 : -1 ≤ tn ∧ tn ≤ 1) (hx : x ∈ four) (hy : y ∈ four) (hu : u ∈ four) (hv : v ∈ four) {xs : List PV} (hxs : xs.length < 16777216) :
    exSs (run T (n + 2)) lt1 (ILy S R G V D B a6 (some (.tup [.int u, .int v])) a8 a9 (some (tupI common)) rr a b c d (some (.ref s.length)) (some (.int tn)) (some (.tup [.int x, .int y]))) (s ++ [.lst xs])
      = .ok (.nx (ILy S R G V D B a6 (some (.tup [.int u, .int v])) a8 a9 (some (tupI common)) rr a b c d (some (.ref s.length)) (some (.int tn)) (some (.tup [.int x, .int y])))) (s ++ [.lst (xs ++ [.int (tn * sgnG g (common ++ [x, y]) * sgnG g (common ++ [u, v]))])]) := by
  have Bd : ∀ x y, x ∈ four → y ∈ four → (∀ z ∈ common ++ [x, y], 0 ≤ z ∧ z < size) := fun x y hx hy z hz => by
    refine hb z ?_
    rcases List.mem_append.mp hz with q | q
    · exact List.mem_append_left _ q
    · refine List.mem_append_right _ ?_
      rcases List.mem_cons.mp q with q | q
      · rw [q]; exact hx
      · rw [List.mem_singleton.mp q]; exact hy
  have L : ∀ x y : Int, (common ++ [x, y]).length = rank := fun x y => by rw [List.length_append]; exact hl
  have Sg : ∀ x y, x ∈ four → y ∈ four → run T (n + 2) "_law_tg_sign" [D, tupI (common ++ [x, y])] (s ++ [.lst xs]) = .ok (.int (sgnG g (common ++ [x, y]))) (s ++ [.lst xs]) := fun x y hx hy => tg_sign_ok hT.sign hT.sorting (g := g) (by rw [L x y]; exact hr) fun hn => (hg _ _ (sortI_lot hn (L x y) (Bd x y hx hy))).1
  have A : ∀ x y : Int, bop .add (tupI common) (.tup [.int x, .int y]) (s ++ [.lst xs]) = some (tupI (common ++ [x, y])) := fun x y => add_tupI2 (by omega)
  have z1 := mulL_ (s := s ++ [.lst xs]) (i := tn) (j := sgnG g (common ++ [x, y])) ht
  have z2 := mulL_ (s := s ++ [.lst xs]) (i := tn * sgnG g (common ++ [x, y])) (j := sgnG g (common ++ [u, v])) (small_of (mul_sg ht1 (sgnG_sg hg (L x y) (Bd x y hx hy))))
  simp [ILy, lstOf_end, A, Sg x y hx hy, Sg u v hu hv, z1, z2, app_end hxs]
theorem law_prods (hT : TgT T) {D : PV} {g : List Int → Int} {size : Int} {rank : Nat} (hg : Gd D g (lotsN size rank)) {common : List Int} {a b c d : Int} (hl : common.length + 2 = rank) (hr : rank < 1000) (hb : ∀ x ∈ common ++ [a, b, c, d], 0 ≤ x ∧ x < size) {S R G V B : PV} {a6 a7 a8 a9 rr t k : Option PV} :
    ∃ a7' t' k', forGo [] (fun x ρ => evTg (run T (n + 2)) (.tp (.cons (.nm 17) (.cons (.nm 18) (.cons (.nm 7) .nil)))) x ρ) (exSs (run T (n + 2)) lt1) [.tup [.int 1, .tup [.int a, .int b], .tup [.int c, .int d]], .tup [.int (-1), .tup [.int a, .int c], .tup [.int b, .int d]], .tup [.int 1, .tup [.int a, .int d], .tup [.int b, .int c]]]
      (ILy S R G V D B a6 a7 a8 a9 (some (tupI common)) rr (some (.int a)) (some (.int b)) (some (.int c)) (some (.int d)) (some (.ref s.length)) t k) (s ++ [.lst []]) = .ok (.nx (ILy S R G V D B a6 a7' a8 a9 (some (tupI common)) rr (some (.int a)) (some (.int b)) (some (.int c)) (some (.int d)) (some (.ref s.length)) t' k')) (s ++ [.lst ((prods g common a b c d).map .int)]) := by
  have P := fun tn x y u v h1 h2 h3 h4 h5 h6 xs h7 => law_prod1 hT (n := n) (s := s) hg (four := [a, b, c, d]) hl hr hb (S := S) (R := R) (G := G) (V := V) (B := B) (a6 := a6) (a8 := a8) (a9 := a9) (rr := rr) (a := some (.int a)) (b := some (.int b)) (c := some (.int c)) (d := some (.int d)) (tn := tn) (x := x) (y := y) (u := u) (v := v) h1 h2 h3 h4 h5 h6 (xs := xs) h7
  refine ⟨some (.tup [.int b, .int c]), some (.int 1), some (.tup [.int a, .int d]), ?_⟩
  rw [forGo_nx rfl (ρ1 := ILy S R G V D B a6 (some (.tup [.int c, .int d])) a8 a9 (some (tupI common)) rr (some (.int a)) (some (.int b)) (some (.int c)) (some (.int d)) (some (.ref s.length)) (some (.int 1)) (some (.tup [.int a, .int b]))) (by simp [ILy]) (P 1 a b c d (by decide) (by decide) (by simp) (by simp) (by simp) (by simp) [] (by simp))]
  rw [forGo_nx rfl (ρ1 := ILy S R G V D B a6 (some (.tup [.int b, .int d])) a8 a9 (some (tupI common)) rr (some (.int a)) (some (.int b)) (some (.int c)) (some (.int d)) (some (.ref s.length)) (some (.int (-1))) (some (.tup [.int a, .int c]))) (by simp [ILy]) (P (-1) a c b d (by decide) (by decide) (by simp) (by simp) (by simp) (by simp) _ (by simp))]
  rw [forGo_nx rfl (ρ1 := ILy S R G V D B a6 (some (.tup [.int b, .int c])) a8 a9 (some (tupI common)) rr (some (.int a)) (some (.int b)) (some (.int c)) (some (.int d)) (some (.ref s.length)) (some (.int 1)) (some (.tup [.int a, .int d]))) (by simp [ILy]) (P 1 a d b c (by decide) (by decide) (by simp) (by simp) (by simp) (by simp) _ (by simp))]
  rw [forGo_nil rfl]
  simp [prods, Int.neg_mul]
/-- the walk over four elements -/
def IL4 (S R G V D B : PV) (a6 a8 a9 c r : Option PV) (s : Store) : Env → Store → Prop := fun ρ s' => ∃ ex, s' = s ++ ex ∧ ∃ a7 a b p q w t k, ρ = ILy S R G V D B a6 a7 a8 a9 c r a b p q w t k
def IL3 (S R G V D B : PV) (a6 a8 a9 : Option PV) (s : Store) : Env → Store → Prop := fun ρ s' => ∃ ex, s' = s ++ ex ∧ ∃ a7 c r a b p q w t k, ρ = ILy S R G V D B a6 a7 a8 a9 c r a b p q w t k
def encF (rest : List Int) : List Int → PV := fun spots => tupI (pickL rest spots)
theorem lawT (hT : TgT T) {size : Int} {rank : Nat} (hs0 : 0 ≤ size) (hs : size < 1000) (h2 : 2 ≤ rank) (hr : rank < 1000) {D : PV} {g : List Int → Int} (hg : Gd D g (lotsN size rank)) (hb4 : ∀ m : Nat, (m : Int) ≤ size → ∀ k, k ≤ 4 → (lotsN m k).length ≤ 16777216) {R G V B : PV} {a6 a8 a9 : Option PV} :
    ∀ ρ : Env, IL3 (.int size) R G V D B a6 a8 a9 s ρ s → Looks (IL3 (.int size) R G V D B a6 a8 a9 s) (fun _ s' => ∃ ex, s' = s ++ ex) ((lotsN size (rank - 2)).findSome? fun common => brkC g size common) (forGo [] (fun x ρ => evTg (run T (n + 2)) (.nm 10) x ρ) (exSs (run T (n + 2)) lt3) ((lotsN size (rank - 2)).map tupI) ρ s) := by
  intro ρ hρ
  refine forGo_look (IL3 (.int size) R G V D B a6 a8 a9 s) _ _ (fun _ _ _ => rfl) _ (fun common h1 ρ s' ⟨ex, es, a7, c, r, a, b, p, q, w, t, k, eρ⟩ => ?_) _ _ hρ
  subst es eρ
  refine ⟨ILy (.int size) R G V D B a6 a7 a8 a9 (some (tupI common)) r a b p q w t k, s ++ ex, by simp [ILy], ?_⟩
  have C := comp_rest (s := s ++ ex) (Φ := run T (n + 2)) (ρ := ILy (.int size) R G V D B a6 a7 a8 a9 (some (tupI common)) r a b p q w t k) (j := 20) (jc := 10) size common fun x => ⟨(ILy (.int size) R G V D B a6 a7 a8 a9 (some (tupI common)) r a b p q w t k).set 20 (some (.int x)), by simp [ILy], rfl, rfl⟩
  have w1 := evIt_rng1_of (Φ := run T (n + 2)) (b := .var 0) (ρ := ILy (.int size) R G V D B a6 a7 a8 a9 (some (tupI common)) r a b p q w t k) (s := s ++ ex) (j := size) (by simp [ILy]) (by omega) (by omega)
  have hrl := restOf_len (common := common) hs0
  have Mk := mkLst_f (s := s ++ ex) (vs := (restOf size common).map .int) (by rw [List.length_map]; omega)
  have lo := tg_lots_ok hT.toLotsT (n := n + 1) (s := s ++ ex) (size := (restOf size common).length) (many := 4) (by omega) (by omega) (by omega) (hb4 _ (by omega))
  have lo' : run T (n + 2) "_law_tg_lots" [.int (restOf size common).length, .int 4] (s ++ ex) = _ := lo
  unfold brkC
  have hb' := hb4 (restOf size common).length (by omega) 4 (by omega)
  have hrest : ∀ x ∈ restOf size common, 0 ≤ x ∧ x < size := fun x hx => (mem_restOf.mp hx).1
  generalize hRe : restOf size common = rest at *
  have l1 := mem_lots.mp h1
  -- the list of four elements each
  have F : compGo [] (fun x => evTg (run T (n + 2)) (.nm 23) x (ILy (.int size) R G V D B a6 a7 a8 a9 (some (tupI common)) (some (.lst (rest.map .int))) a b p q w t k)) (evIf (run T (n + 2)) .nil) (fun ρ => (evE (run T (n + 2)) (.bi .tuple (.cons (.lc false (.sub (.var 11) (.var 22)) (.nm 22) (.val (.var 23)) .nil [("spot", 22)]) .nil)) ρ).bnd fun y => M.ret [y]) ((lotsN rest.length 4).map tupI) (s ++ ex) = .ok ((lotsN rest.length 4).map (encF rest)) (s ++ ex) := by
    refine compGo_map (enc := tupI) _ rfl _ fun spots hsp => ?_
    have l2 := mem_lots.mp hsp
    refine ⟨(ILy (.int size) R G V D B a6 a7 a8 a9 (some (tupI common)) (some (.lst (rest.map .int))) a b p q w t k).set 23 (some (tupI spots)), by simp [ILy], by simp, ?_⟩
    have P := comp_pick (s := s ++ ex) (Φ := run T (n + 2)) (ρ := (ILy (.int size) R G V D B a6 a7 a8 a9 (some (tupI common)) (some (.lst (rest.map .int))) a b p q w t k).set 23 (some (tupI spots))) (j := 22) (jr := 11) rest spots l2.2.2 fun x => ⟨((ILy (.int size) R G V D B a6 a7 a8 a9 (some (tupI common)) (some (.lst (rest.map .int))) a b p q w t k).set 23 (some (tupI spots))).set 22 (some (.int x)), by simp [ILy], rfl, rfl⟩
    have hpl : (pickL rest spots).length = 4 := by unfold pickL; rw [List.length_map]; exact l2.1
    have M2 := mkLst_f (s := s ++ ex) (vs := (pickL rest spots).map .int) (by rw [List.length_map]; omega)
    have TI := tuple_ints (s := s ++ ex) (l := pickL rest spots)
    simp [ILy] at P
    simp [-tuple_lst, ILy, wipe, P, M2, TI, encF]
  have MF := mkLst_f (s := s ++ ex) (vs := (lotsN rest.length 4).map (encF rest)) (by rw [List.length_map]; exact hb')
  have W : Looks (IL4 (.int size) R G V D B a6 a8 a9 (some (tupI common)) (some (.lst (rest.map .int))) (s ++ ex)) (fun _ s'' => ∃ ex', s'' = s ++ ex ++ ex') ((lotsN rest.length 4).findSome? fun spots => brk3 g common (pickL rest spots)) (forGo [] (fun x ρ => evTg (run T (n + 2)) (.tp (.cons (.nm 12) (.cons (.nm 13) (.cons (.nm 14) (.cons (.nm 15) .nil))))) x ρ) (exSs (run T (n + 2)) lt2) ((lotsN rest.length 4).map (encF rest)) (ILy (.int size) R G V D B a6 a7 a8 a9 (some (tupI common)) (some (.lst (rest.map .int))) a b p q w t k) (s ++ ex)) := by
    refine forGo_look _ _ _ (fun _ _ _ => rfl) _ (fun spots h2 ρ s'' ⟨ex', es, a7, a, b, p, q, w, t, k, eρ⟩ => ?_) _ _ ⟨[], (List.append_nil _).symm, a7, a, b, p, q, w, t, k, rfl⟩
    subst eρ
    have l2 := mem_lots.mp h2
    have hp := pickL_mem l2.2.2
    have hpl : (pickL rest spots).length = 4 := by unfold pickL; rw [List.length_map]; exact l2.1
    obtain ⟨x, y, z, u, e4⟩ := four_of hpl
    rw [e4] at hp ⊢
    rw [show encF rest spots = .tup [.int x, .int y, .int z, .int u] by unfold encF; rw [e4]; rfl]
    refine ⟨ILy (.int size) R G V D B a6 a7 a8 a9 (some (tupI common)) (some (.lst (rest.map .int))) (some (.int x)) (some (.int y)) (some (.int z)) (some (.int u)) w t k, s'', by simp [ILy], ?_⟩
    have hrg : ∀ v ∈ common ++ [x, y, z, u], 0 ≤ v ∧ v < size := fun v hv => by
      rcases List.mem_append.mp hv with q | q
      · exact l1.2.2 v q
      · exact hrest v (hp v q)
    obtain ⟨a7', t', k', PR⟩ := law_prods hT (n := n) (s := s'') hg (common := common) (a := x) (b := y) (c := z) (d := u) (by omega) hr hrg (S := .int size) (R := R) (G := G) (V := V) (B := B) (a6 := a6) (a7 := a7) (a8 := a8) (a9 := a9) (rr := some (.lst (rest.map .int))) (t := t) (k := k)
    have sgs : ∀ x' y', x' ∈ [x, y, z, u] → y' ∈ [x, y, z, u] → -1 ≤ sgnG g (common ++ [x', y']) ∧ sgnG g (common ++ [x', y']) ≤ 1 := fun x' y' hx hy => sgnG_sg hg (by rw [List.length_append]; show common.length + 2 = rank; omega) fun v hv => by
      refine hrg v ?_
      rcases List.mem_append.mp hv with q | q
      · exact List.mem_append_left _ q
      · refine List.mem_append_right _ ?_
        rcases List.mem_cons.mp q with q | q
        · rw [q]; exact hx
        · rw [List.mem_singleton.mp q]; exact hy
    have m1 := mul_sg (sgs x y (by simp) (by simp)) (sgs z u (by simp) (by simp))
    have m2 := mul_sg (sgs x z (by simp) (by simp)) (sgs y u (by simp) (by simp))
    have m3 := mul_sg (sgs x u (by simp) (by simp)) (sgs y z (by simp) (by simp))
    have SI := sset_in (s := s'' ++ [.lst ((prods g common x y z u).map .int)]) m1 (q := -(sgnG g (common ++ [x, z]) * sgnG g (common ++ [y, u]))) (by omega) m3
    have SE := sset_end (s := s'') (l := prods g common x y z u) (by show 3 < 64; decide)
    rw [brk3_eq]
    have SI : cop .isin (.lst ((sortI (ddI (prods g common x y z u))).map .int)) (.lst [.lst [.int 1], .lst [.int (-1)], .lst [.int 0, .int 1], .lst [.int (-1), .int 0]]) (s'' ++ [.lst ((prods g common x y z u).map .int)]) = some (decide (1 ∈ prods g common x y z u) != decide (-1 ∈ prods g common x y z u)) := SI
    generalize prods g common x y z u = pr at *
    generalize (decide (1 ∈ pr) != decide (-1 ∈ pr)) = bb at *
    have k1 := fun s => mkLst_f (s := s) (vs := [PV.int 1]) (by simp)
    have k2 := fun s => mkLst_f (s := s) (vs := [PV.int (-1)]) (by simp)
    have k3 := fun s => mkLst_f (s := s) (vs := [PV.int 0, PV.int 1]) (by simp)
    have k4 := fun s => mkLst_f (s := s) (vs := [PV.int (-1), PV.int 0]) (by simp)
    have k5 := fun s (a b c d : PV) => mkLst_f (s := s) (vs := [a, b, c, d]) (by simp)
    have k6 := fun s (a b c : PV) => mkLst_f (s := s) (vs := [a, b, c]) (by simp)
    have k7 := fun s => mkLst_t (s := s) (vs := []) (by simp)
    simp only [ILy] at PR
    cases bb with
    | true =>
      rw [if_pos rfl]
      refine ⟨s'' ++ [.lst (pr.map .int)], ?_, ex' ++ [.lst (pr.map .int)], by rw [es, List.append_assoc]⟩
      simp [-tuple_lst, ILy, k1, k2, k3, k4, k5, k6, k7, PR, SE, SI]
      rfl
    | false =>
      rw [if_neg (by decide)]
      refine ⟨ILy (.int size) R G V D B a6 a7' a8 a9 (some (tupI common)) (some (.lst (rest.map .int))) (some (.int x)) (some (.int y)) (some (.int z)) (some (.int u)) (some (.ref s''.length)) t' k', s'' ++ [.lst (pr.map .int)], ?_, ex' ++ [.lst (pr.map .int)], by rw [es, List.append_assoc], _, _, _, _, _, _, _, _, rfl⟩
      simp [-tuple_lst, ILy, k1, k2, k3, k4, k5, k6, k7, PR, SE, SI]
  have W1 : Looks (IL3 (.int size) R G V D B a6 a8 a9 s) (fun _ s'' => ∃ ex', s'' = s ++ ex') ((lotsN rest.length 4).findSome? fun spots => brk3 g common (pickL rest spots)) (forGo [] (fun x ρ => evTg (run T (n + 2)) (.tp (.cons (.nm 12) (.cons (.nm 13) (.cons (.nm 14) (.cons (.nm 15) .nil))))) x ρ) (exSs (run T (n + 2)) lt2) ((lotsN rest.length 4).map (encF rest)) (ILy (.int size) R G V D B a6 a7 a8 a9 (some (tupI common)) (some (.lst (rest.map .int))) a b p q w t k) (s ++ ex)) := by
    generalize ((lotsN rest.length 4).findSome? fun spots => brk3 g common (pickL rest spots)) = o at *
    cases o with
    | some v =>
      obtain ⟨s', e, ex', h⟩ := W
      exact ⟨s', e, ex ++ ex', by rw [h, List.append_assoc]⟩
    | none =>
      obtain ⟨ρ', s', e, ex', h, a7, a, b, p, q, w, t, k, eρ⟩ := W
      exact ⟨ρ', s', e, ex ++ ex', by rw [h, List.append_assoc], a7, _, _, a, b, p, q, w, t, k, eρ⟩
  have W' := Looks.nil W1 (run T (n + 2))
  rw [exSs_cons, exS_asg, evE_lc, w1]
  simp only [ILy] at C F W'
  simp only [ILy, bR_ok, wipe, List.map_cons, List.map_nil, List.set_cons_succ, List.set_cons_zero, C, lR_ok, Mk, sR_ok, evTg_nm]
  simp only [List.length_cons, List.length_nil, Nat.reduceAdd, Nat.reduceLT, if_true, tR_ok, kR_nx]
  rw [exSs_cons, exS_forr]
  have it : ∀ ρ, evE (run T (n + 2)) (.call "_law_tg_lots" (.cons (.bi .len (.cons (.var 11) .nil)) (.cons (.int 4) .nil))) ([some (.int size), some R, some G, some V, some D, some B, a6, a7, a8, a9, some (tupI common), some (.lst (rest.map .int)), a, b, p, q, w, t, k] ++ ρ) (s ++ ex) = .ok (.lst ((lotsN rest.length 4).map tupI)) (s ++ ex) := fun ρ => by
    simp [lo']
  have it' := it [none, none, none, none, none]
  simp only [List.cons_append, List.nil_append] at it'
  rw [evIt_val, evE_lc, evIt_val, it']
  simp only [bR_ok, seqOf_lst, Option.map_some, oR_some, watch_lst, wipe, List.map_cons, List.map_nil, List.set_cons_succ, List.set_cons_zero, F, lR_ok, MF, sR_ok]
  exact W'
theorem lock_str {s : Store} {n0 k : Nat} {x : Str} : lock s n0 (k + 1) (.str x) = some (.str x) := rfl
theorem lock_int' {s : Store} {n0 k : Nat} {i : Int} : lock s n0 (k + 1) (.int i) = some (.int i) := rfl
theorem lock_tupI' {s : Store} {n0 k : Nat} {l : List Int} : lock s n0 (k + 2) (tupI l) = some (tupI l) := lock_tupI
def Lk (v : PV) : Prop := ∀ s n0, lock s n0 50 v = some v
theorem brkB_form {g : List Int → Int} {bs : List (List Int)} {v : PV} (h : brkB g bs = some v) : ∃ one other gone, one ∈ bs ∧ other ∈ bs ∧ gone ∈ one ∧ v = .tup [.str "bases", tupI one, tupI other, .int gone] := by
  obtain ⟨one, a1, h1⟩ := List.exists_of_findSome?_eq_some h
  obtain ⟨other, a2, h2⟩ := List.exists_of_findSome?_eq_some h1
  obtain ⟨gone, a3, h3⟩ := List.exists_of_findSome?_eq_some h2
  unfold brk1 at h3
  split at h3
  · cases h3
  · split at h3
    · exact ⟨one, other, gone, a1, a2, a3, (Option.some.inj h3).symm⟩
    · cases h3
theorem brkT_form {g : List Int → Int} {size : Int} {rank : Nat} {v : PV} (h : brkT g size rank = some v) : ∃ common four, (common ∈ lotsN size (rank - 2) ∧ four.length = 4 ∧ ∀ x ∈ four, 0 ≤ x ∧ x < size) ∧ v = .tup [.str "three", tupI common, tupI four] := by
  unfold brkT at h
  split at h
  · obtain ⟨common, a1, h1⟩ := List.exists_of_findSome?_eq_some h
    obtain ⟨spots, a2, h2⟩ := List.exists_of_findSome?_eq_some h1
    have l2 := mem_lots.mp a2
    have hp := pickL_mem l2.2.2
    have hpl : (pickL (restOf size common) spots).length = 4 := by unfold pickL; rw [List.length_map]; exact l2.1
    obtain ⟨x, y, z, u, e4⟩ := four_of hpl
    rw [e4] at h2 hp
    rw [brk3_eq] at h2
    split at h2
    · exact ⟨common, [x, y, z, u], ⟨a1, rfl, fun w hw => (mem_restOf.mp (hp w hw)).1⟩, (Option.some.inj h2).symm⟩
    · cases h2
  · cases h
theorem Lk_non : Lk .non := fun _ _ => rfl
theorem Lk_tup {xs : List PV} (h : ∀ x ∈ xs, ∀ s n0, lock s n0 49 x = some x) : Lk (.tup xs) := fun s n0 => lock_tup fun x hx => h x hx s n0
theorem brkB_lk {g : List Int → Int} {bs : List (List Int)} {v : PV} (h : brkB g bs = some v) : Lk v := by
  obtain ⟨a, b, c, _, _, _, e⟩ := brkB_form h
  subst e
  refine Lk_tup fun x hx s n0 => ?_
  simp only [List.mem_cons, List.not_mem_nil, or_false] at hx
  rcases hx with e | e | e | e <;> subst e
  · rfl
  · exact lock_tupI
  · exact lock_tupI
  · rfl
theorem brkT_lk {g : List Int → Int} {size : Int} {rank : Nat} {v : PV} (h : brkT g size rank = some v) : Lk v := by
  obtain ⟨a, b, _, e⟩ := brkT_form h
  subst e
  refine Lk_tup fun x hx s n0 => ?_
  simp only [List.mem_cons, List.not_mem_nil, or_false] at hx
  rcases hx with e | e | e <;> subst e
  · rfl
  · exact lock_tupI
  · exact lock_tupI
theorem fin_ex {ex : Store} {v : PV} (h : Lk v) : fin true s v (s ++ ex) = .ok v s := fin_pure (h _ _)
theorem fin_same {v : PV} (h : Lk v) : fin true s v s = .ok v s := by
  have := fin_ex (s := s) (ex := []) h
  rwa [List.append_nil] at this
theorem look_cut {I : Env → Store → Prop} {o : Option PV} {r : SR} {Φ : Str → List PV → M PV} (h : Looks I (fun _ s' => ∃ ex, s' = s ++ ex) o r) (hi : ∀ ρ s', I ρ s' → ∃ ex, s' = s ++ ex) (hl : ∀ v, o = some v → Lk v) : rR true s (kR r (exSs Φ (.cons (.ret .non) .nil))) = .ok (o.getD .non) s := by
  cases o with
  | some v =>
    obtain ⟨s', e, ex, hb⟩ := h
    subst hb
    rw [e]; simp [fin_ex (hl v rfl)]
  | none =>
    obtain ⟨ρ', s', e, hb⟩ := h
    obtain ⟨ex, hb⟩ := hi _ _ hb
    subst hb
    rw [e]; simp [fin_ex Lk_non]
theorem tg_broken_ok (hT : TgT T) {size : Int} {rank : Nat} (hs0 : 0 ≤ size) (hs : size ≤ 9) (hr : (rank : Int) ≤ size) {sg : List Int} (hsg : SgL sg) (hl : (lotsN size rank).length = sg.length) :
    run T (n + 3) "_law_tg_broken" [.int size, .int rank, tupI sg] s = .ok (brkA size rank sg) s := by
  rw [run_mk hT.broken rfl]
  have hb : ∀ k, k ≤ rank → (lotsN size k).length ≤ 16777216 := fun k hk => Nat.le_trans (lots_le hs0 hs (by omega)) (by decide)
  have hb4 : ∀ m : Nat, (m : Int) ≤ size → ∀ k, k ≤ 4 → (lotsN m k).length ≤ 16777216 := fun m hm k hk => Nat.le_trans (lots_le (by omega) (by omega) (by omega)) (by decide)
  have hg : Gd (dicL (lotsN size rank) sg) (look (lotsN size rank) sg) (lotsN size rank) := fun s l h => ⟨sub_dicL hl h, hsg _ (look_mem _ _ _ hl h)⟩
  have lo := tg_lots_ok hT.toLotsT (n := n + 1) (s := s) (size := size) (many := rank) hs0 (by omega) (by omega) hb
  have dz := dzip_ok (s := s) (v := tupI sg) (lots_nodup rank) hl rfl
  have mk : mkDic false true ((lotsN size rank).map tupI, sg.map .int) s = .ok (dicL (lotsN size rank) sg) s := rfl
  unfold brkA
  generalize dicL (lotsN size rank) sg = D at *
  generalize look (lotsN size rank) sg = g at *
  have hin : ∀ x ∈ basesG g (lotsN size rank), x ∈ lotsN size rank := fun x hx => (List.mem_filter.mp hx).1
  have CB := comp_bases (s := s) (Φ := run T (n + 2)) (ρ := [some (.int size), some (.int rank), some (tupI sg), some (.lst ((lotsN size rank).map tupI)), some D, none, none, none, none, none, none, none, none, none, none, none, none, none, none, none, none, none, none, none]) (j := 19) (jk := 4) g (lotsN size rank) D (fun x => ⟨[some (.int size), some (.int rank), some (tupI sg), some (.lst ((lotsN size rank).map tupI)), some D, none, none, none, none, none, none, none, none, none, none, none, none, none, none, some (tupI x), none, none, none, none], by simp, rfl, rfl⟩) fun l h => (hg s l h).1
  have hbl : (basesG g (lotsN size rank)).length ≤ (lotsN size rank).length := List.length_filter_le _ _
  have hCB : (lotsN size rank).filter (fun l => decide (g l ≠ 0)) = basesG g (lotsN size rank) := rfl
  rw [hCB] at CB
  generalize basesG g (lotsN size rank) = bs at *
  have MB := mkLst_f (s := s) (vs := bs.map tupI) (by rw [List.length_map]; exact Nat.le_trans hbl (hb rank (Nat.le_refl _)))
  have W1 := lawB (s := s) (by omega) hg (S := .int size) (R := .int rank) (G := tupI sg) (V := .lst ((lotsN size rank).map tupI)) (bs := bs) hin (Φ := run T (n + 2))
  have E : rR true s (kR (forGo [] (fun x ρ => evTg (run T (n + 2)) (.nm 6) x ρ) (exSs (run T (n + 2)) lb3) (bs.map tupI) (ILx (.int size) (.int rank) (tupI sg) (.lst ((lotsN size rank).map tupI)) D bs none none none none) s) (exSs (run T (n + 2)) (.cons (.forr (.nm 10) (.val (.ite (.cmp .ge (.var 1) (.int 2)) (.call "_law_tg_lots" (.cons (.var 0) (.cons (.op .sub (.var 1) (.int 2)) .nil))) (.lst false .nil))) lt3) (.cons (.ret .non) .nil)))) = .ok ((brkB g bs <|> brkT g size rank).getD .non) s := by
    have hlk : ∀ v, brkB g bs = some v → Lk v := fun v h => brkB_lk h
    generalize brkB g bs = o at *
    cases o with
    | some v =>
      obtain ⟨s', e, hb⟩ := W1
      subst hb
      rw [e]
      simp [fin_same (hlk v rfl)]
    | none =>
      obtain ⟨ρ', s', e, hb, a, b, c, d, eρ⟩ := W1
      subst hb eρ
      rw [e, kR_nx, exSs_cons, exS_forr]
      show _ = R.ok ((brkT g size rank).getD .non) s'
      by_cases h2 : 2 ≤ rank
      · have lo2 := tg_lots_ok hT.toLotsT (n := n + 1) (s := s') (size := size) (many := rank - 2) hs0 (by omega) (by omega) fun k hk => hb k (by omega)
        have e2 : (rank : Int) - 2 = ((rank - 2 : Nat) : Int) := by omega
        have h1 : (2 : Int) ≤ rank := by omega
        have W2 := lawT hT (n := n) (s := s') hs0 (by omega) h2 (by omega) hg hb4 (R := .int rank) (G := tupI sg) (V := .lst ((lotsN size rank).map tupI)) (B := .lst (bs.map tupI)) (a6 := a) (a8 := c) (a9 := d) (ILx (.int size) (.int rank) (tupI sg) (.lst ((lotsN size rank).map tupI)) D bs a b c d) ⟨[], (List.append_nil _).symm, b, none, none, none, none, none, none, none, none, none, rfl⟩
        have hT2 : brkT g size rank = (lotsN size (rank - 2)).findSome? fun common => brkC g size common := by unfold brkT; rw [if_pos h2]
        have E := look_cut (Φ := run T (n + 2)) W2 (fun ρ s'' h => let ⟨ex, e, _⟩ := h; ⟨ex, e⟩) fun v hv => brkT_lk (hT2.trans hv)
        rw [hT2]
        refine Eq.trans ?_ E
        simp [-exSs_cons, ILx, h1, e2, lo2]
      · have h1 : ¬ (2 : Int) ≤ rank := by omega
        have hT2 : brkT g size rank = none := by unfold brkT; rw [if_neg h2]
        rw [hT2]
        simp [-exSs_cons, ILx, h1]
        rw [forGo_nil rfl]
        simp [fin_same Lk_non]
  refine Eq.trans ?_ E
  simp only [start, List.map_cons, List.map_nil, List.length_cons, List.length_nil, List.cons_append, List.nil_append, Nat.zero_add, Nat.reduceAdd, Nat.reduceSub, List.reduceReplicate]
  rw [exSs_cons, exS_asg]
  simp [-exSs_cons, lo]
  rw [exSs_cons, exS_asg]
  simp [-exSs_cons, dz, mk]
  rw [exSs_cons, exS_asg]
  simp [-exSs_cons, wipe, CB, MB]
  rw [exSs_cons, exS_forr]
  simp [-exSs_cons, ILx]
end Mini

set_option Elab.async false
set_option linter.all false
set_option maxRecDepth 100000
/-! MiniC: repr of small things. -/
namespace Mini
open PySem (Str PyData sizeLine)
variable {T : Str → Option Fn} {n : Nat} {s : Store}
def Good (b : Nat) (x : Str) : Prop := PyData.strOk x = true ∧ x.length ≤ b
theorem Good.mono {a b : Nat} {x : Str} (h : Good a x) (hb : a ≤ b) : Good b x := ⟨h.1, Nat.le_trans h.2 hb⟩
theorem Good.app {a b : Nat} {x y : Str} (h : Good a x) (h' : Good b y) : Good (a + b) (x ++ y) := by
  refine ⟨?_, ?_⟩
  · have e : (x ++ y).cps = x.cps ++ y.cps := rfl
    have h1 := h.1
    have h2 := h'.1
    unfold PyData.strOk at *
    rw [e, Array.all_append, h1, h2]; rfl
  · rw [PySem.strLen_append]
    have := h.2
    have := h'.2
    omega
theorem good_join {b : Nat} : ∀ ts : List Str, (∀ t ∈ ts, Good b t) → Good ((b + 2) * ts.length) (Str.join ", " ts)
  | [], _ => ⟨by decide +kernel, Nat.zero_le _⟩
  | [x], h => (h x (List.mem_cons_self ..)).mono (by simp)
  | x :: y :: r, h => by
    have ih := good_join (y :: r) fun t ht => h t (List.mem_cons_of_mem _ ht)
    have hx := h x (List.mem_cons_self ..)
    have hc : Good 2 ((", " : String) : Str) := ⟨by decide +kernel, by decide +kernel⟩
    have := (hx.app hc).app ih
    refine Good.mono (x := x ++ ", " ++ Str.join ", " (y :: r)) this ?_
    simp only [List.length_cons, Nat.mul_add]
    omega
theorem good_tuple {b : Nat} {ts : List Str} (h : ∀ t ∈ ts, Good b t) : Good ((b + 2) * ts.length + 3) (PySem.tupleText ts) := by
  have h1 : Good 1 (("(" : String) : Str) := ⟨by decide +kernel, by decide +kernel⟩
  have h2 : Good 2 (((if ts.length == 1 then ",)" else ")" : String) : Str)) := by
    split
    · exact ⟨by decide +kernel, by decide +kernel⟩
    · exact ⟨by decide +kernel, by decide +kernel⟩
  have := (h1.app (good_join ts h)).app h2
  exact Good.mono (x := ("(" : Str) ++ Str.join ", " ts ++ (if ts.length == 1 then ",)" else ")" : String)) this (by omega)
theorem good_int {i : Int} (h0 : 0 ≤ i) (h1 : i < 10) : Good 1 (PyData.shown (.int i)) := by
  have : i = 0 ∨ i = 1 ∨ i = 2 ∨ i = 3 ∨ i = 4 ∨ i = 5 ∨ i = 6 ∨ i = 7 ∨ i = 8 ∨ i = 9 := by omega
  rcases this with e | e | e | e | e | e | e | e | e | e <;> subst e <;> exact ⟨by decide +kernel, by decide +kernel⟩
theorem shownAll_map : ∀ ds : List PyData, PyData.shownAll ds = ds.map PyData.shown
  | [] => by simp only [PyData.shownAll, List.map_nil]
  | x :: r => by simp only [PyData.shownAll, List.map_cons, shownAll_map r]
/-- small data, to be shown -/
structure Sh (b : Nat) (d : PyData) : Prop where
  good : Good b d.shown
  can : d.showable = true
  nd : d.hasDict = false
  dep : d.depth ≤ 10
theorem showableAll_of : ∀ ds : List PyData, (∀ d ∈ ds, d.showable = true) → PyData.showableAll ds = true
  | [], _ => by simp only [PyData.showableAll]
  | x :: r, h => by
    simp only [PyData.showableAll, h x (List.mem_cons_self ..), showableAll_of r fun d hd => h d (List.mem_cons_of_mem _ hd), Bool.and_self]
theorem hasDictAll_of : ∀ ds : List PyData, (∀ d ∈ ds, d.hasDict = false) → PyData.hasDictAll ds = false
  | [], _ => by simp only [PyData.hasDictAll]
  | x :: r, h => by
    simp only [PyData.hasDictAll, h x (List.mem_cons_self ..), hasDictAll_of r fun d hd => h d (List.mem_cons_of_mem _ hd), Bool.or_self]
theorem depthAll_of {k : Nat} : ∀ ds : List PyData, (∀ d ∈ ds, d.depth ≤ k) → PyData.depthAll ds ≤ k
  | [], _ => by simp only [PyData.depthAll, Nat.zero_le]
  | x :: r, h => by
    simp only [PyData.depthAll]
    exact Nat.max_le.mpr ⟨h x (List.mem_cons_self ..), depthAll_of r fun d hd => h d (List.mem_cons_of_mem _ hd)⟩
theorem sh_int {i : Int} (h0 : 0 ≤ i) (h1 : i < 10) : Sh 1 (.int i) := by
  refine ⟨good_int h0 h1, ?_, by simp only [PyData.hasDict], by simp only [PyData.depth, Nat.zero_le]⟩
  have : i = 0 ∨ i = 1 ∨ i = 2 ∨ i = 3 ∨ i = 4 ∨ i = 5 ∨ i = 6 ∨ i = 7 ∨ i = 8 ∨ i = 9 := by omega
  rcases this with e | e | e | e | e | e | e | e | e | e <;> subst e <;> decide +kernel
theorem sh_tup {b k : Nat} {ds : List PyData} (h : ∀ d ∈ ds, Sh b d) (hk : ∀ d ∈ ds, d.depth ≤ k) (hk2 : k < 10) : Sh ((b + 2) * ds.length + 3) (.tuple ds) := by
  refine ⟨?_, ?_, ?_, ?_⟩
  · simp only [PyData.shown, shownAll_map]
    have := good_tuple (b := b) (ts := ds.map PyData.shown) fun t ht => by
      obtain ⟨d, hd, e⟩ := List.mem_map.mp ht
      subst e
      exact (h d hd).good
    rwa [List.length_map] at this
  · simp only [PyData.showable]
    exact showableAll_of ds fun d hd => (h d hd).can
  · simp only [PyData.hasDict]
    exact hasDictAll_of ds fun d hd => (h d hd).nd
  · simp only [PyData.depth]
    have := depthAll_of ds hk
    omega
theorem Sh.mono {a b : Nat} {d : PyData} (h : Sh a d) (hb : a ≤ b) : Sh b d := ⟨h.good.mono hb, h.can, h.nd, h.dep⟩
theorem sh_tupI {l : List Int} (h : ∀ x ∈ l, 0 ≤ x ∧ x < 10) (hl : l.length ≤ 9) : Sh 30 (.tuple (l.map .int)) := by
  have := sh_tup (b := 1) (k := 0) (ds := l.map .int) (fun d hd => by
    obtain ⟨x, hx, e⟩ := List.mem_map.mp hd
    subst e
    exact sh_int (h x hx).1 (h x hx).2) (fun d hd => by
    obtain ⟨x, hx, e⟩ := List.mem_map.mp hd
    subst e
    simp only [PyData.depth, Nat.le_refl]) (by decide)
  refine this.mono ?_
  rw [List.length_map]
  omega
theorem depth_tupI (l : List Int) : (PyData.tuple (l.map .int)).depth = 1 := by
  simp only [PyData.depth, depth_ints]
theorem sh_bases : Sh 30 (.str "bases") := ⟨⟨by decide +kernel, by decide +kernel⟩, by decide +kernel, by decide +kernel, by decide +kernel⟩
theorem sh_three : Sh 30 (.str "three") := ⟨⟨by decide +kernel, by decide +kernel⟩, by decide +kernel, by decide +kernel, by decide +kernel⟩
theorem repr_sh {v : PV} {xs : List PyData} {b : Nat} (hv : ∃ ys, v = .tup ys) (hd : toD v = some (.tuple xs)) (h : Sh b (.tuple xs)) (hb : b ≤ 1000000) : ∃ t, biF .repr [v] s = some (.str t) ∧ Good b t := by
  obtain ⟨ys, e⟩ := hv
  subst e
  refine ⟨(PyData.tuple xs).shown, ?_, h.good⟩
  show ((toD (.tup ys)).bind fun d => if isSq d && showOk d then some (PV.str d.shown) else none) = _
  rw [hd]
  simp only [Option.bind_some]
  rw [if_pos]
  unfold showOk
  rw [h.can, h.nd]
  have h1 := h.dep
  have h2 := h.good.2
  have h3 : (PyData.tuple xs).shown.length ≤ sizeLine := by rw [PySem.sizeLine_eq]; omega
  simp only [isSq, Bool.true_and, Bool.not_false]
  rw [decide_eq_true (by omega : (PyData.tuple xs).depth ≤ 60), decide_eq_true h3]
  rfl
theorem ne_str_same {t : Str} (h : PyData.strOk t = true) : cop .ne (.str t) (.str t) s = some false := by
  show (eqD s (.str t) (.str t)).map not = _
  have z : toDS s (.str t) = some (.str t) := rfl
  unfold eqD
  rw [z]
  have k : okD (.str t) = true := by
    show (PyData.canLay0 (.str t) && decide (PyData.depth (.str t) ≤ 64)) = true
    simp only [PyData.canLay0, PyData.depth, h]
    rfl
  simp only [k, Bool.and_self, if_true, PyData.eqv, beq_self_eq_true]
  rfl
theorem repr_brk {size : Int} {rank : Nat} (hs0 : 0 ≤ size) (hs : size ≤ 9) (hr : (rank : Int) ≤ size) {sg : List Int} : ∃ t, (∀ s, biF .repr [brkA size rank sg] s = some (.str t)) ∧ PyData.strOk t = true := by
  have key : ∀ v : PV, (v = .non ∨ ∃ xs, (∃ ys, v = .tup ys) ∧ toD v = some (.tuple xs) ∧ Sh 200 (.tuple xs)) → ∃ t, (∀ s, biF .repr [v] s = some (.str t)) ∧ PyData.strOk t = true := fun v h => by
    rcases h with e | ⟨xs, hv, hd, hsh⟩
    · subst e
      exact ⟨"None", fun _ => rfl, by decide +kernel⟩
    · obtain ⟨t, _, h2⟩ := repr_sh (s := []) hv hd hsh (by decide)
      refine ⟨(PyData.tuple xs).shown, fun s => ?_, hsh.good.1⟩
      obtain ⟨ys, e⟩ := hv
      subst e
      show ((toD (.tup ys)).bind fun d => if isSq d && showOk d then some (PV.str d.shown) else none) = _
      rw [hd]
      simp only [Option.bind_some]
      rw [if_pos]
      unfold showOk
      rw [hsh.can, hsh.nd]
      have h1 := hsh.dep
      have h2 := hsh.good.2
      have h3 : (PyData.tuple xs).shown.length ≤ sizeLine := by rw [PySem.sizeLine_eq]; omega
      simp only [isSq, Bool.true_and, Bool.not_false]
      rw [decide_eq_true (by omega : (PyData.tuple xs).depth ≤ 60), decide_eq_true h3]
      rfl
  refine key _ ?_
  unfold brkA
  have small : ∀ l, l ∈ lotsN size rank → (∀ x ∈ l, 0 ≤ x ∧ x < 10) ∧ l.length ≤ 9 := fun l hl => by
    have := mem_lots.mp hl
    exact ⟨fun x hx => by have := this.2.2 x hx; omega, by omega⟩
  generalize hB : brkB (look (lotsN size rank) sg) (basesG (look (lotsN size rank) sg) (lotsN size rank)) = o
  cases o with
  | some v =>
    right
    obtain ⟨one, other, gone, a1, a2, a3, e⟩ := brkB_form hB
    have b1 := small _ (List.mem_filter.mp a1).1
    have b2 := small _ (List.mem_filter.mp a2).1
    refine ⟨[.str "bases", .tuple (one.map .int), .tuple (other.map .int), .int gone], ⟨_, e⟩, ?_, ?_⟩
    · show toD v = _
      rw [e]
      show (toDs _).map PyData.tuple = _
      simp only [toDs, toD_tupI, toD, Option.map_some]
    · refine (sh_tup (b := 30) (k := 1) (fun d hd => ?_) (fun d hd => ?_) (by decide)).mono (show (30 + 2) * 4 + 3 ≤ 200 by decide)
      · simp only [List.mem_cons, List.not_mem_nil, or_false] at hd
        rcases hd with e | e | e | e <;> subst e
        · exact sh_bases
        · exact sh_tupI b1.1 b1.2
        · exact sh_tupI b2.1 b2.2
        · exact (sh_int (b1.1 _ a3).1 (b1.1 _ a3).2).mono (by decide)
      · simp only [List.mem_cons, List.not_mem_nil, or_false] at hd
        rcases hd with e | e | e | e <;> subst e
        · simp only [PyData.depth]; decide
        · rw [depth_tupI]; decide
        · rw [depth_tupI]; decide
        · simp only [PyData.depth]; decide
  | none =>
    show (brkT (look (lotsN size rank) sg) size rank).getD .non = .non ∨ _
    generalize hC : brkT (look (lotsN size rank) sg) size rank = o
    cases o with
    | none => exact .inl rfl
    | some v =>
      right
      obtain ⟨common, four, ⟨a1, a2, a3⟩, e⟩ := brkT_form hC
      have c := mem_lots.mp a1
      refine ⟨[.str "three", .tuple (common.map .int), .tuple (four.map .int)], ⟨_, e⟩, ?_, ?_⟩
      · show toD v = _
        rw [e]
        show (toDs _).map PyData.tuple = _
        simp only [toDs, toD_tupI, toD, Option.map_some]
      · refine (sh_tup (b := 30) (k := 1) (fun d hd => ?_) (fun d hd => ?_) (by decide)).mono (show (30 + 2) * 3 + 3 ≤ 200 by decide)
        · simp only [List.mem_cons, List.not_mem_nil, or_false] at hd
          rcases hd with e | e | e <;> subst e
          · exact sh_three
          · exact sh_tupI (fun x hx => by have := c.2.2 x hx; omega) (by omega)
          · exact sh_tupI (fun x hx => by have := a3 x hx; omega) (by omega)
        · simp only [List.mem_cons, List.not_mem_nil, or_false] at hd
          rcases hd with e | e | e <;> subst e
          · simp only [PyData.depth]; decide
          · rw [depth_tupI]; decide
          · rw [depth_tupI]; decide
end Mini

set_option Elab.async false
set_option linter.all false
set_option maxRecDepth 100000
/-! MiniU: rows of signs: the program's and the laws' own. -/
namespace Mini
open PySem (Str PyData sizeLine)
def f_is_row : Fn := ⟨["value"], ["value"], .cons (.ret (.and (.isi (.var 0) .tuple) (.and (.cmp .le (.bi .len (.cons (.var 0) .nil)) (.gint "MOST_ELEMENTS" 9)) (.call "are_signs" (.cons (.var 0) (.cons (.bi .len (.cons (.var 0) .nil)) .nil)))))) .nil, false⟩
def f_need_row : Fn := ⟨["row"], ["row"], .cons (.iff (.not (.call "is_row" (.cons (.var 0) .nil))) (.cons (.rse "BadRow") .nil) .nil) .nil, false⟩
def f_need_two : Fn := ⟨["one", "other"], ["one", "other"], .cons (.ex (.call "need_row" (.cons (.var 0) .nil))) (.cons (.iff (.not (.call "are_signs" (.cons (.var 1) (.cons (.bi .len (.cons (.var 0) .nil)) .nil)))) (.cons (.rse "BadRow") .nil) .nil) .nil), false⟩
def f_negated : Fn := ⟨["row"], ["row", "sign"], .cons (.ret (.bi .tuple (.cons (.lc false (.neg (.var 1)) (.nm 1) (.val (.var 0)) .nil [("sign", 1)]) .nil))) .nil, false⟩
def f_negative : Fn := ⟨["row"], ["row"], .cons (.ex (.call "need_row" (.cons (.var 0) .nil))) (.cons (.ret (.call "negated" (.cons (.var 0) .nil))) .nil), false⟩
def f_put_on : Fn := ⟨["one", "other"], ["one", "other", "first", "second"], .cons (.ret (.bi .tuple (.cons (.lc false (.ite (.cmp .ne (.var 2) (.int 0)) (.var 2) (.var 3)) (.tp (.cons (.nm 2) (.cons (.nm 3) .nil))) (.zip (.var 0) (.var 1)) .nil [("first", 2), ("second", 3)]) .nil))) .nil, false⟩
def f_composed : Fn := ⟨["one", "other"], ["one", "other"], .cons (.ex (.call "need_two" (.cons (.var 0) (.cons (.var 1) .nil)))) (.cons (.ret (.call "put_on" (.cons (.var 0) (.cons (.var 1) .nil)))) .nil), false⟩
def f_parted : Fn := ⟨["one", "other"], ["one", "other", "at", "sign"], .cons (.ret (.bi .tuple (.cons (.lc false (.var 2) (.tp (.cons (.nm 2) (.cons (.nm 3) .nil))) (.enum (.var 0)) (.cons (.and (.cmp .ne (.var 3) (.int 0)) (.cmp .eq (.var 3) (.neg (.sub (.var 1) (.var 2))))) .nil) [("at", 2), ("sign", 3)]) .nil))) .nil, false⟩
def f_apart : Fn := ⟨["one", "other"], ["one", "other"], .cons (.ex (.call "need_two" (.cons (.var 0) (.cons (.var 1) .nil)))) (.cons (.ret (.call "parted" (.cons (.var 0) (.cons (.var 1) .nil)))) .nil), false⟩
def f_at_right_angles : Fn := ⟨["one", "other"], ["one", "other", "products", "first", "second"], .cons (.asg (.nm 2) (.lc false (.op .mul (.var 3) (.var 4)) (.tp (.cons (.nm 3) (.cons (.nm 4) .nil))) (.zip (.var 0) (.var 1)) .nil [("first", 3), ("second", 4)])) (.cons (.ret (.cmp .eq (.cmp .isin (.int 1) (.var 2)) (.cmp .isin (.neg (.int 1)) (.var 2)))) .nil), false⟩
def f_are_orthogonal : Fn := ⟨["one", "other"], ["one", "other"], .cons (.ex (.call "need_two" (.cons (.var 0) (.cons (.var 1) .nil)))) (.cons (.ret (.call "at_right_angles" (.cons (.var 0) (.cons (.var 1) .nil)))) .nil), false⟩
def f_borne : Fn := ⟨["row"], ["row", "at", "sign"], .cons (.ret (.bi .tuple (.cons (.lc false (.var 1) (.tp (.cons (.nm 1) (.cons (.nm 2) .nil))) (.enum (.var 0)) (.cons (.cmp .ne (.var 2) (.int 0)) .nil) [("at", 1), ("sign", 2)]) .nil))) .nil, false⟩
def f_support : Fn := ⟨["row"], ["row"], .cons (.ex (.call "need_row" (.cons (.var 0) .nil))) (.cons (.ret (.call "borne" (.cons (.var 0) .nil))) .nil), false⟩
def f__law_is_truth : Fn := ⟨["found", "due"], ["found", "due"], .cons (.ret (.ite (.var 1) (.cmp .is (.var 0) (.bl true)) (.cmp .is (.var 0) (.bl false)))) .nil, false⟩
def f__law_tg_row : Fn := ⟨["state", "size"], ["state", "size", "element"], .cons (.ret (.bi .tuple (.cons (.lc false (.op .sub (.call "_law_draw" (.cons (.var 0) (.cons (.int 3) .nil))) (.int 1)) (.nm 2) (.rng1 (.var 1)) .nil [("element", 2)]) .nil))) .nil, false⟩
def f__law_tg_put : Fn := ⟨["one", "other"], ["one", "other", "first", "second"], .cons (.ret (.bi .tuple (.cons (.lc false (.ite (.cmp .ne (.var 2) (.int 0)) (.var 2) (.var 3)) (.tp (.cons (.nm 2) (.cons (.nm 3) .nil))) (.zip (.var 0) (.var 1)) .nil [("first", 2), ("second", 3)]) .nil))) .nil, false⟩
def f__law_tg_right : Fn := ⟨["one", "other"], ["one", "other", "products", "first", "second"], .cons (.asg (.nm 2) (.lc false (.op .mul (.var 3) (.var 4)) (.tp (.cons (.nm 3) (.cons (.nm 4) .nil))) (.zip (.var 0) (.var 1)) .nil [("first", 3), ("second", 4)])) (.cons (.ret (.cmp .eq (.cmp .gt (.cnt (.var 2) (.int 1)) (.int 0)) (.cmp .gt (.cnt (.var 2) (.neg (.int 1))) (.int 0)))) .nil), false⟩
structure RowT (T : Str → Option Fn) : Prop extends ChecksT T where
  signs : T "are_signs" = some f_are_signs
  is_row : T "is_row" = some f_is_row
  need_row : T "need_row" = some f_need_row
structure RowsT (T : Str → Option Fn) : Prop extends RowT T where
  need_two : T "need_two" = some f_need_two
  negated : T "negated" = some f_negated
  negative : T "negative" = some f_negative
  put_on : T "put_on" = some f_put_on
  composed : T "composed" = some f_composed
  parted : T "parted" = some f_parted
  apart : T "apart" = some f_apart
  right : T "at_right_angles" = some f_at_right_angles
  orth : T "are_orthogonal" = some f_are_orthogonal
  borne : T "borne" = some f_borne
  support : T "support" = some f_support
variable {T : Str → Option Fn} {n : Nat} {s : Store}
/-! ### what is looked at -/
/-- a sign -/
def okI : PV → Bool
  | .int i => decide (-1 ≤ i ∧ i ≤ 1)
  | _ => false
/-- what may lie in a tuple that is looked at -/
inductive Smp : PV → Prop
  | non : Smp .non
  | bl (b : Bool) : Smp (.bl b)
  | int (i : Int) (h : -big < i) (h' : i < big) : Smp (.int i)
  | tup (xs : List PV) : Smp (.tup xs)
theorem whole_no (hT : ChecksT T) {v : PV} (h : isiF .int v s = some (.bl false) ∨ (isiF .int v s = some (.bl true) ∧ isiF .bool v s = some (.bl true))) : run T (n + 1) "is_whole" [v] s = .ok (.bl false) s := by
  rw [run_mk hT.whole rfl]
  rcases h with h | ⟨h, h2⟩
  · simp [start, h]
  · simp [start, h, h2]
theorem number_no (hT : ChecksT T) {v : PV} {a b : Int} (h : isiF .int v s = some (.bl false) ∨ (isiF .int v s = some (.bl true) ∧ isiF .bool v s = some (.bl true))) : run T (n + 2) "is_number" [v, .int a, .int b] s = .ok (.bl false) s := by
  rw [run_mk hT.number rfl]
  simp [start, whole_no hT h]
theorem number_smp (hT : ChecksT T) {v : PV} (h : Smp v) : run T (n + 2) "is_number" [v, .int (-1), .int 1] s = .ok (.bl (okI v)) s := by
  cases h with
  | non => exact number_no hT (.inl rfl)
  | bl b => exact number_no hT (.inr ⟨rfl, rfl⟩)
  | int i h h' => exact is_number_ok hT h h'
  | tup xs => exact number_no hT (.inl rfl)
/-- a value that may be handed in for a row -/
inductive AnyV : PV → Prop
  | tup (xs : List PV) (h : ∀ x ∈ xs, Smp x) (hl : xs.length ≤ 1000) : AnyV (.tup xs)
  | no (v : PV) (h : ∀ s, isiF .tuple v s = some (.bl false)) : AnyV v
def sgV (v : PV) (k : Int) : Bool := match v with
  | .tup xs => decide ((xs.length : Int) = k) && xs.all okI
  | _ => false
def rowV (v : PV) : Bool := match v with
  | .tup xs => decide (xs.length ≤ 9) && xs.all okI
  | _ => false
theorem sgV_no {v : PV} {k : Int} (h : isiF .tuple v [] = some (.bl false)) : sgV v k = false := by
  cases v with
  | tup xs => cases h
  | _ => rfl
theorem rowV_no {v : PV} (h : isiF .tuple v [] = some (.bl false)) : rowV v = false := by
  cases v with
  | tup xs => cases h
  | _ => rfl
theorem isi_tup {xs : List PV} : isiF .tuple (.tup xs) s = some (.bl true) := rfl
theorem are_signs_any (hT : RowT T) {v : PV} {k : Int} (h : AnyV v) : run T (n + 3) "are_signs" [v, .int k] s = .ok (.bl (sgV v k)) s := by
  rw [run_mk hT.signs rfl]
  cases h with
  | no v h =>
    rw [sgV_no (h [])]
    simp [start, h s]
  | tup xs h hl =>
    have C := compGo_map (X := PV) (enc := id) (wt := []) (s := s) (bind := fun x => evTg (run T (n + 2)) (.nm 2) x [some (.tup xs), some (.int k), none]) (test := evIf (run T (n + 2)) .nil) (el := fun ρ => (evE (run T (n + 2)) (.call "is_number" (.cons (.var 2) (.cons (.neg (.int 1)) (.cons (.int 1) .nil)))) ρ).bnd fun y => M.ret [y])
      (fun x => .bl (okI x)) rfl xs fun x hx => by
        refine ⟨[some (.tup xs), some (.int k), some x], by simp [wipe], by simp, ?_⟩
        simp [number_smp hT.toChecksT (h x hx)]
    rw [List.map_id] at C
    have e : (xs.map fun x => PV.bl (okI x)) = (xs.map okI).map .bl := by rw [List.map_map]; rfl
    rw [e] at C
    have M := mkLst_f (s := s) (vs := (xs.map okI).map .bl) (by rw [List.length_map, List.length_map]; omega)
    have A : (xs.map okI).all id = xs.all okI := by rw [List.all_map]; rfl
    generalize xs.map okI = q at *
    by_cases hk : (xs.length : Int) = k
    · simp [start, isi_tup, hk, wipe, C, M, A, sgV]
    · simp [start, isi_tup, hk, sgV]
theorem is_row_any (hT : RowT T) {v : PV} (h : AnyV v) : run T (n + 4) "is_row" [v] s = .ok (.bl (rowV v)) s := by
  rw [run_mk hT.is_row rfl]
  cases h with
  | no v h =>
    rw [rowV_no (h [])]
    simp [start, h s]
  | tup xs h hl =>
    have A := are_signs_any hT (n := n) (s := s) (k := (xs.length : Int)) (.tup xs h hl)
    by_cases hk : xs.length ≤ 9
    · have hk' : (xs.length : Int) ≤ 9 := by omega
      simp [start, isi_tup, hk', A, rowV, sgV, hk]
    · have hk' : ¬ (xs.length : Int) ≤ 9 := by omega
      simp [start, isi_tup, hk', rowV, hk]
def badRow : PV := .exn "BadRow" [] []
theorem need_row_any (hT : RowT T) {v : PV} (h : AnyV v) : run T (n + 5) "need_row" [v] s = if rowV v then .ok .non s else .exc badRow s := by
  rw [run_mk hT.need_row rfl]
  have A := is_row_any hT (n := n) (s := s) h
  cases e : rowV v <;> simp [start, A, e, badRow]
/-- a row -/
structure Row (l : List Int) : Prop where
  sg : SgL l
  len : l.length ≤ 9
theorem Row.any {l : List Int} (h : Row l) : AnyV (tupI l) := .tup _ (fun x hx => by
  obtain ⟨i, hi, e⟩ := List.mem_map.mp hx
  subst e
  have := h.sg i hi
  exact .int i (by unfold big; omega) (by unfold big; omega)) (by rw [List.length_map]; have := h.len; omega)
theorem all_okI {l : List Int} (h : SgL l) : (l.map PV.int).all okI = true := by
  rw [List.all_map]
  exact List.all_eq_true.mpr fun x hx => decide_eq_true (h x hx)
theorem Row.ok {l : List Int} (h : Row l) : rowV (tupI l) = true := by
  show (decide ((l.map PV.int).length ≤ 9) && (l.map PV.int).all okI) = true
  rw [all_okI h.sg, List.length_map, decide_eq_true h.len]
  rfl
theorem Row.sgV {l : List Int} (h : Row l) {k : Int} (hk : (l.length : Int) = k) : sgV (tupI l) k = true := by
  show (decide (((l.map PV.int).length : Int) = k) && (l.map PV.int).all okI) = true
  rw [all_okI h.sg, List.length_map, decide_eq_true hk]
  rfl
theorem need_row_ok (hT : RowT T) {l : List Int} (h : Row l) : run T (n + 5) "need_row" [tupI l] s = .ok .non s := by
  rw [need_row_any hT h.any, if_pos h.ok]
theorem need_row_bad (hT : RowT T) {v : PV} (h : AnyV v) (hb : rowV v = false) : run T (n + 5) "need_row" [v] s = .exc badRow s := by
  rw [need_row_any hT h, hb]
  rfl
theorem need_two_ok (hT : RowsT T) {a b : List Int} (ha : Row a) (hb : Row b) (hl : a.length = b.length) : run T (n + 6) "need_two" [tupI a, tupI b] s = .ok .non s := by
  rw [run_mk hT.need_two rfl]
  have A := are_signs_any hT.toRowT (n := n + 2) (s := s) (k := (a.length : Int)) hb.any
  rw [hb.sgV (by omega)] at A
  simp [start, need_row_ok hT.toRowT ha, A]
theorem need_two_first (hT : RowsT T) {v w : PV} (h : AnyV v) (hb : rowV v = false) : run T (n + 6) "need_two" [v, w] s = .exc badRow s := by
  rw [run_mk hT.need_two rfl]
  simp [start, need_row_bad hT.toRowT h hb]
theorem need_two_other (hT : RowsT T) {a : List Int} {w : PV} (ha : Row a) (h : AnyV w) (hb : sgV w a.length = false) : run T (n + 6) "need_two" [tupI a, w] s = .exc badRow s := by
  rw [run_mk hT.need_two rfl]
  have A := are_signs_any hT.toRowT (n := n + 2) (s := s) (k := (a.length : Int)) h
  rw [hb] at A
  simp [start, need_row_ok hT.toRowT ha, A, badRow]
/-! ### what the functions tell -/
def negL (l : List Int) : List Int := l.map fun x => -x
def putL (a b : List Int) : List Int := (a.zip b).map fun p => if p.1 ≠ 0 then p.1 else p.2
def prL (a b : List Int) : List Int := (a.zip b).map fun p => p.1 * p.2
def atL (a : List Int) (i : Int) : Int := a.getD i.toNat 0
/-- the elements at which two rows have opposite signs -/
def apL (a b : List Int) : List Int := (rgN 0 a.length).filter fun i => decide (atL a i * atL b i = -1)
/-- the elements at which a row is not 0 -/
def suL (a : List Int) : List Int := (rgN 0 a.length).filter fun i => decide (atL a i ≠ 0)
/-- are two rows orthogonal? -/
def orL (a b : List Int) : Bool := decide (1 ∈ prL a b) == decide (-1 ∈ prL a b)
def prE (p : Int × Int) : PV := .tup [.int p.1, .int p.2]
theorem zipV_prE : ∀ a b : List Int, zipV (a.map .int) (b.map .int) = (a.zip b).map prE
  | [], _ => by simp [zipV]
  | _ :: _, [] => by simp [zipV]
  | x :: a, y :: b => by
    have ih := zipV_prE a b
    unfold zipV at *
    simp only [List.map_cons, List.zipWith_cons_cons, List.zip_cons_cons, ih]
    rfl
theorem rgN_nat (k : Nat) : rgN 0 (k : Int) = (List.range k).map (fun i : Nat => (i : Int)) := by
  unfold rgN
  rw [show ((k : Int) - 0).toNat = k by omega]
  exact List.map_congr_left fun x _ => Int.zero_add _
theorem enumV_rg (a : List Int) : enumV (a.map .int) = (rgN 0 a.length).map fun i => PV.tup [.int i, .int (atL a i)] := by
  rw [rgN_nat, List.map_map]
  unfold enumV
  refine List.ext_getElem (by simp) fun i h1 h2 => ?_
  simp only [List.length_map, List.length_zipIdx] at h1
  simp only [List.getElem_map, List.getElem_zipIdx, List.getElem_range, Function.comp, atL]
  simp [List.getElem?_eq_getElem h1]
theorem atL_sub {a : List Int} {i : Int} (h0 : 0 ≤ i) (h1 : i < a.length) : subG (tupI a) (.int i) s = some (.int (atL a i)) := by
  rw [sub_tupI h0 h1]
  unfold atL
  rw [List.getD_eq_getElem?_getD, List.getElem?_eq_getElem (by omega)]
  rfl
theorem zipL_len (a b : List Int) : (a.zip b).length ≤ a.length := by rw [List.length_zip]; omega
theorem negated_ok (hT : RowsT T) {l : List Int} (hl : l.length ≤ 1000) : run T (n + 1) "negated" [tupI l] s = .ok (tupI (negL l)) s := by
  rw [run_mk hT.negated rfl]
  have C := compGo_map (X := Int) (enc := PV.int) (wt := []) (s := s) (bind := fun x => evTg (run T n) (.nm 1) x [some (tupI l), none]) (test := evIf (run T n) .nil) (el := fun ρ => (evE (run T n) (.neg (.var 1)) ρ).bnd fun y => M.ret [y])
    (fun x => .int (-x)) rfl l fun x hx => ⟨[some (tupI l), some (.int x)], by simp, by simp, by simp⟩
  have e : (l.map fun x => PV.int (-x)) = (negL l).map .int := by unfold negL; rw [List.map_map]; rfl
  rw [e] at C
  have M := mkLst_f (s := s) (vs := (negL l).map .int) (by unfold negL; simp; omega)
  have TI := tuple_ints (s := s) (l := negL l)
  generalize negL l = q at *
  simp [-tuple_lst, start, wipe, C, M, TI]
theorem negative_ok (hT : RowsT T) {l : List Int} (h : Row l) : run T (n + 6) "negative" [tupI l] s = .ok (tupI (negL l)) s := by
  rw [run_mk hT.negative rfl]
  simp [start, need_row_ok hT.toRowT h, negated_ok hT (n := n + 4) (l := l) (by have := h.len; omega)]
theorem negative_bad (hT : RowsT T) {v : PV} (h : AnyV v) (hb : rowV v = false) : run T (n + 6) "negative" [v] s = .exc badRow s := by
  rw [run_mk hT.negative rfl]
  simp [start, need_row_bad hT.toRowT h hb]
theorem put_comp {Φ : Str → List PV → M PV} (a b : List Int) : compGo [] (fun x => evTg Φ (.tp (.cons (.nm 2) (.cons (.nm 3) .nil))) x [some (tupI a), some (tupI b), none, none]) (evIf Φ .nil) (fun ρ => (evE Φ (.ite (.cmp .ne (.var 2) (.int 0)) (.var 2) (.var 3)) ρ).bnd fun y => M.ret [y]) ((a.zip b).map prE) s = .ok ((putL a b).map .int) s := by
  have C := compGo_map (X := Int × Int) (enc := prE) (wt := []) (s := s) (bind := fun x => evTg Φ (.tp (.cons (.nm 2) (.cons (.nm 3) .nil))) x [some (tupI a), some (tupI b), none, none]) (test := evIf Φ .nil) (el := fun ρ => (evE Φ (.ite (.cmp .ne (.var 2) (.int 0)) (.var 2) (.var 3)) ρ).bnd fun y => M.ret [y])
    (fun p => .int (if p.1 ≠ 0 then p.1 else p.2)) rfl (a.zip b) fun p hp => by
      refine ⟨[some (tupI a), some (tupI b), some (.int p.1), some (.int p.2)], by simp [prE], by simp, ?_⟩
      by_cases h : p.1 = 0 <;> simp [h]
  rw [C]
  unfold putL
  rw [List.map_map]
  rfl
theorem put_on_ok (hT : RowsT T) {a b : List Int} (ha : a.length ≤ 1000) : run T (n + 1) "put_on" [tupI a, tupI b] s = .ok (tupI (putL a b)) s := by
  rw [run_mk hT.put_on rfl]
  have C := put_comp (s := s) (Φ := run T n) a b
  have M := mkLst_f (s := s) (vs := (putL a b).map .int) (by have := zipL_len a b; unfold putL; simp; omega)
  have TI := tuple_ints (s := s) (l := putL a b)
  have Z := zipV_prE a b
  generalize putL a b = q at *
  simp [-tuple_lst, start, wipe, Z, C, M, TI]
theorem composed_ok (hT : RowsT T) {a b : List Int} (ha : Row a) (hb : Row b) (hl : a.length = b.length) : run T (n + 7) "composed" [tupI a, tupI b] s = .ok (tupI (putL a b)) s := by
  rw [run_mk hT.composed rfl]
  simp [start, need_two_ok hT ha hb hl, put_on_ok hT (n := n + 5) (a := a) (b := b) (by have := ha.len; omega)]
theorem parted_ok (hT : RowsT T) {a b : List Int} (ha : Row a) (hb : Row b) (hl : a.length = b.length) : run T (n + 1) "parted" [tupI a, tupI b] s = .ok (tupI (apL a b)) s := by
  rw [run_mk hT.parted rfl]
  have C := compGo_filter (X := Int) (enc := fun i => PV.tup [.int i, .int (atL a i)]) (wt := []) (s := s) (bind := fun x => evTg (run T n) (.tp (.cons (.nm 2) (.cons (.nm 3) .nil))) x [some (tupI a), some (tupI b), none, none])
    (test := evIf (run T n) (.cons (.and (.cmp .ne (.var 3) (.int 0)) (.cmp .eq (.var 3) (.neg (.sub (.var 1) (.var 2))))) .nil)) (el := fun ρ => (evE (run T n) (.var 2) ρ).bnd fun y => M.ret [y])
    (fun i => decide (atL a i * atL b i = -1)) (fun i => .int i) rfl (rgN 0 a.length) fun i hi => by
      have hi := mem_rgN.mp hi
      refine ⟨[some (tupI a), some (tupI b), some (.int i), some (.int (atL a i))], by simp, ?_, fun _ => by simp⟩
      have S := atL_sub (s := s) (a := b) (i := i) hi.1 (by omega)
      have m1 : ∀ l : List Int, SgL l → i < l.length → atL l i = -1 ∨ atL l i = 0 ∨ atL l i = 1 := fun l h hh => by
        have : atL l i ∈ l := by
          unfold atL
          rw [List.getD_eq_getElem?_getD, List.getElem?_eq_getElem (by omega)]
          exact List.getElem_mem _
        have := h _ this
        omega
      have x1 := m1 a ha.sg hi.2
      have x2 := m1 b hb.sg (by omega)
      generalize atL a i = x at *
      generalize atL b i = y at *
      simp only [evIf_cons, evE_and, evE_cmp, evE_var, List.getElem?_cons_zero, List.getElem?_cons_succ, Option.join_some, oR_some, bR_ok, evE_int, ne_int, Option.map_some, truth_bl, evE_neg, evE_sub, S, neg_int, eq_int]
      rcases x1 with e | e | e <;> rcases x2 with e' | e' | e' <;> subst e <;> subst e' <;> rfl
  have e : ((rgN 0 a.length).filter fun i => decide (atL a i * atL b i = -1)).map PV.int = (apL a b).map .int := rfl
  rw [e] at C
  have M := mkLst_f (s := s) (vs := (apL a b).map .int) (by
    have := List.length_filter_le (fun i => decide (atL a i * atL b i = -1)) (rgN 0 a.length)
    unfold apL
    rw [rgN_length] at this
    rw [List.length_map]
    have := ha.len
    omega)
  have TI := tuple_ints (s := s) (l := apL a b)
  have Z := enumV_rg a
  generalize apL a b = q at *
  simp [-tuple_lst, start, wipe, Z, C, M, TI]
theorem apart_ok (hT : RowsT T) {a b : List Int} (ha : Row a) (hb : Row b) (hl : a.length = b.length) : run T (n + 7) "apart" [tupI a, tupI b] s = .ok (tupI (apL a b)) s := by
  rw [run_mk hT.apart rfl]
  simp [start, need_two_ok hT ha hb hl, parted_ok hT (n := n + 5) ha hb hl]
theorem pr_comp {Φ : Str → List PV → M PV} {a b : List Int} (ha : SgL a) : compGo [] (fun x => evTg Φ (.tp (.cons (.nm 3) (.cons (.nm 4) .nil))) x [some (tupI a), some (tupI b), none, none, none]) (evIf Φ .nil) (fun ρ => (evE Φ (.op .mul (.var 3) (.var 4)) ρ).bnd fun y => M.ret [y]) ((a.zip b).map prE) s = .ok ((prL a b).map .int) s := by
  have C := compGo_map (X := Int × Int) (enc := prE) (wt := []) (s := s) (bind := fun x => evTg Φ (.tp (.cons (.nm 3) (.cons (.nm 4) .nil))) x [some (tupI a), some (tupI b), none, none, none]) (test := evIf Φ .nil) (el := fun ρ => (evE Φ (.op .mul (.var 3) (.var 4)) ρ).bnd fun y => M.ret [y])
    (fun p => .int (p.1 * p.2)) rfl (a.zip b) fun p hp => by
      have := ha p.1 (List.of_mem_zip hp).1
      have h64 : small64 p.1 = true := decide_eq_true (by omega)
      exact ⟨[some (tupI a), some (tupI b), none, some (.int p.1), some (.int p.2)], by simp [prE], by simp, by simp [mulL_ h64]⟩
  rw [C]
  unfold prL
  rw [List.map_map]
  rfl
theorem eq_bl {x y : Bool} : cop .eq (.bl x) (.bl y) s = some (x == y) := by cases x <;> cases y <;> rfl
theorem right_ok (hT : RowsT T) {a b : List Int} (ha : Row a) : run T (n + 1) "at_right_angles" [tupI a, tupI b] s = .ok (.bl (orL a b)) s := by
  rw [run_mk hT.right rfl]
  have C := pr_comp (s := s) (Φ := run T n) (b := b) ha.sg
  have M := mkLst_f (s := s) (vs := (prL a b).map .int) (by have := zipL_len a b; have := ha.len; unfold prL; simp; omega)
  have Z := zipV_prE a b
  unfold orL
  generalize prL a b = q at *
  simp [start, wipe, Z, C, M, eq_bl]
theorem orth_ok (hT : RowsT T) {a b : List Int} (ha : Row a) (hb : Row b) (hl : a.length = b.length) : run T (n + 7) "are_orthogonal" [tupI a, tupI b] s = .ok (.bl (orL a b)) s := by
  rw [run_mk hT.orth rfl]
  simp [start, need_two_ok hT ha hb hl, right_ok hT (n := n + 5) ha]
theorem borne_ok (hT : RowsT T) {a : List Int} (ha : a.length ≤ 1000) : run T (n + 1) "borne" [tupI a] s = .ok (tupI (suL a)) s := by
  rw [run_mk hT.borne rfl]
  have C := compGo_filter (X := Int) (enc := fun i => PV.tup [.int i, .int (atL a i)]) (wt := []) (s := s) (bind := fun x => evTg (run T n) (.tp (.cons (.nm 1) (.cons (.nm 2) .nil))) x [some (tupI a), none, none])
    (test := evIf (run T n) (.cons (.cmp .ne (.var 2) (.int 0)) .nil)) (el := fun ρ => (evE (run T n) (.var 1) ρ).bnd fun y => M.ret [y])
    (fun i => decide (atL a i ≠ 0)) (fun i => .int i) rfl (rgN 0 a.length) fun i hi => ⟨[some (tupI a), some (.int i), some (.int (atL a i))], by simp, by simp, fun _ => by simp⟩
  have e : ((rgN 0 a.length).filter fun i => decide (atL a i ≠ 0)).map PV.int = (suL a).map .int := rfl
  rw [e] at C
  have M := mkLst_f (s := s) (vs := (suL a).map .int) (by
    have := List.length_filter_le (fun i => decide (atL a i ≠ 0)) (rgN 0 a.length)
    unfold suL
    rw [rgN_length] at this
    rw [List.length_map]
    omega)
  have TI := tuple_ints (s := s) (l := suL a)
  have Z := enumV_rg a
  generalize suL a = q at *
  simp [-tuple_lst, start, wipe, Z, C, M, TI]
theorem support_ok (hT : RowsT T) {a : List Int} (ha : Row a) : run T (n + 6) "support" [tupI a] s = .ok (tupI (suL a)) s := by
  rw [run_mk hT.support rfl]
  simp [start, need_row_ok hT.toRowT ha, borne_ok hT (n := n + 4) (a := a) (by have := ha.len; omega)]
theorem support_bad (hT : RowsT T) {v : PV} (h : AnyV v) (hb : rowV v = false) : run T (n + 6) "support" [v] s = .exc badRow s := by
  rw [run_mk hT.support rfl]
  simp [start, need_row_bad hT.toRowT h hb]
theorem composed_bad (hT : RowsT T) {v w : PV} (h : run T (n + 6) "need_two" [v, w] s = .exc badRow s) : run T (n + 7) "composed" [v, w] s = .exc badRow s := by
  rw [run_mk hT.composed rfl]
  simp [start, h]
theorem apart_bad (hT : RowsT T) {v w : PV} (h : run T (n + 6) "need_two" [v, w] s = .exc badRow s) : run T (n + 7) "apart" [v, w] s = .exc badRow s := by
  rw [run_mk hT.apart rfl]
  simp [start, h]
theorem orth_bad (hT : RowsT T) {v w : PV} (h : run T (n + 6) "need_two" [v, w] s = .exc badRow s) : run T (n + 7) "are_orthogonal" [v, w] s = .exc badRow s := by
  rw [run_mk hT.orth rfl]
  simp [start, h]
end Mini

set_option Elab.async false
set_option linter.all false
set_option maxRecDepth 100000
/-! MiniU2: rows of signs: the laws' own, and plain facts. -/
namespace Mini
open PySem (Str PyData sizeLine)
variable {T : Str → Option Fn} {n : Nat} {s : Store}
structure TgRowT (T : Str → Option Fn) : Prop extends Draw0T T where
  truth : T "_law_is_truth" = some f__law_is_truth
  row : T "_law_tg_row" = some f__law_tg_row
  put : T "_law_tg_put" = some f__law_tg_put
  right : T "_law_tg_right" = some f__law_tg_right
/-- a comprehension without a test that changes the store -/
theorem compGo_all {X : Type} {enc : X → PV} {wt : List (Nat × List PV)} {bind : PV → M Env} {test : Env → M Bool} {el : Env → M (List PV)} (I : List X → Store → Prop) (O : PV → Prop) (hst : ∀ r s, I r s → stays wt s = true)
    (step : ∀ x r s, I (x :: r) s → ∃ ρ1 s1, bind (enc x) s = .ok ρ1 s1 ∧ test ρ1 s1 = .ok true s1 ∧ ∃ y s3, el ρ1 s1 = .ok [y] s3 ∧ O y ∧ I r s3) :
    ∀ (xs : List X) (s : Store), I xs s → ∃ ys s', compGo wt bind test el (xs.map enc) s = .ok ys s' ∧ (∀ y ∈ ys, O y) ∧ ys.length = xs.length ∧ I [] s'
  | [], s, h => ⟨[], s, by simp only [List.map_nil, compGo]; rw [if_pos (hst _ _ h)], ⟨(fun y hy => by cases hy), rfl, h⟩⟩
  | x :: r, s, h => by
    obtain ⟨ρ1, s1, e1, e2, y, s3, e3, ho, h3⟩ := step x r s h
    obtain ⟨ys, s', e, a, l, i⟩ := compGo_all I O hst step r s3 h3
    refine ⟨y :: ys, s', ?_, fun z hz => ?_, by rw [List.length_cons, List.length_cons, l], i⟩
    · simp only [List.map_cons, compGo]
      rw [if_pos (hst _ _ h)]
      simp only [e1, e2, e3, e]
      rfl
    · rcases List.mem_cons.mp hz with q | q
      · rw [q]; exact ho
      · exact a z q
def unV : PV → Int
  | .int i => i
  | _ => 0
theorem ints_of {P : Int → Prop} {ys : List PV} (h : ∀ y ∈ ys, ∃ i, y = .int i ∧ P i) : ys = (ys.map unV).map .int ∧ ∀ i ∈ ys.map unV, P i := by
  constructor
  · rw [List.map_map]
    refine ((List.map_congr_left fun x hx => ?_).trans (List.map_id _)).symm
    obtain ⟨i, e, _⟩ := h x hx
    subst e; rfl
  · intro i hi
    obtain ⟨y, hy, e⟩ := List.mem_map.mp hi
    obtain ⟨j, e2, p⟩ := h y hy
    subst e2
    subst e
    exact p
theorem tg_row_ok (hT : TgRowT T) (d : DSt) (r : Store) {size : Int} (h0 : 0 ≤ size) (h1 : size ≤ 1000) (t0 : 0 ≤ d.turn) (t1 : d.turn < 2 ^ 39) : ∃ (l : List Int) (d' : DSt), run T (n + 3) "_law_tg_row" [.ref 1, .int size] (encS d ++ r) = .ok (tupI l) (encS d' ++ r) ∧ SgL l ∧ (l.length : Int) = size ∧ d.turn ≤ d'.turn ∧ d'.turn ≤ d.turn + size := by
  rw [run_mk hT.row rfl]
  obtain ⟨ys, s', e, hy, hl, d', e', u0, u1⟩ := compGo_all (X := Int) (enc := PV.int) (wt := []) (bind := fun x => evTg (run T (n + 2)) (.nm 2) x [some (.ref 1), some (.int size), none]) (test := evIf (run T (n + 2)) .nil) (el := fun ρ => (evE (run T (n + 2)) (.op .sub (.call "_law_draw" (.cons (.var 0) (.cons (.int 3) .nil))) (.int 1)) ρ).bnd fun y => M.ret [y])
    (fun rr s' => ∃ d' : DSt, s' = encS d' ++ r ∧ d.turn ≤ d'.turn ∧ d'.turn + (rr.length : Int) ≤ d.turn + size) (fun y => ∃ i : Int, y = .int i ∧ (-1 ≤ i ∧ i ≤ 1)) (fun _ _ _ => rfl)
    (fun x rr s' ⟨d', e, u0, u1⟩ => by
      subst e
      rw [List.length_cons] at u1
      obtain ⟨v, d2, e2, v0, v1, w0, w1⟩ := draw_ok hT.toDraw0T (n := n) d' r 3 (by decide) (by decide) (by omega) (by omega)
      exact ⟨[some (.ref 1), some (.int size), some (.int x)], encS d' ++ r, by simp, by simp, .int (v - 1), encS d2 ++ r, by simp [e2], ⟨v - 1, rfl, by omega⟩, d2, rfl, by omega, by omega⟩)
    (rgN 0 size) (encS d ++ r) ⟨d, rfl, Int.le_refl _, by rw [rgN_length]; omega⟩
  subst e'
  obtain ⟨eY, hP⟩ := ints_of hy
  rw [rgN_length] at hl
  refine ⟨ys.map unV, d', ?_, hP, by rw [List.length_map, hl]; omega, u0, by simpa using u1⟩
  rw [eY] at e
  have M := mkLst_f (s := encS d' ++ r) (vs := (ys.map unV).map .int) (by rw [← eY, hl]; omega)
  have TI := tuple_ints (s := encS d' ++ r) (l := ys.map unV)
  have it := evIt_rng1_of (Φ := run T (n + 2)) (b := .var 1) (ρ := [some (.ref 1), some (.int size), none]) (s := encS d ++ r) (j := size) (by simp) (by omega) (by omega)
  generalize ys.map unV = q at *
  simp [-tuple_lst, -evIt_rng1, start, it, wipe, e, M, TI]
theorem tg_put_ok (hT : TgRowT T) {a b : List Int} (ha : a.length ≤ 1000) : run T (n + 1) "_law_tg_put" [tupI a, tupI b] s = .ok (tupI (putL a b)) s := by
  rw [run_mk hT.put rfl]
  have C := put_comp (s := s) (Φ := run T n) a b
  have M := mkLst_f (s := s) (vs := (putL a b).map .int) (by have := zipL_len a b; unfold putL; simp; omega)
  have TI := tuple_ints (s := s) (l := putL a b)
  have Z := zipV_prE a b
  generalize putL a b = q at *
  simp [-tuple_lst, start, wipe, Z, C, M, TI]
theorem cnt_ints {l : List Int} {k : Int} : cntF (.lst (l.map .int)) (.int k) s = some (.int (l.count k : Nat)) := by
  show ((lstOf s (.lst (l.map .int))).bind intsOf).map (fun ns => PV.int (ns.count k : Nat)) = _
  simp only [lstOf_lst, Option.bind_some, intsOf_ints, Option.map_some]
theorem cnt_pos {l : List Int} {k : Int} : decide (0 < ((l.count k : Nat) : Int)) = decide (k ∈ l) := by
  have := List.count_pos_iff (a := k) (l := l)
  by_cases h : k ∈ l
  · have := this.mpr h
    simp [h]
  · have h2 : ¬ 0 < l.count k := fun z => h (this.mp z)
    have h3 : l.count k = 0 := by omega
    simp [h, h3]
theorem tg_right_ok (hT : TgRowT T) {a b : List Int} (ha : Row a) : run T (n + 1) "_law_tg_right" [tupI a, tupI b] s = .ok (.bl (orL a b)) s := by
  rw [run_mk hT.right rfl]
  have C := pr_comp (s := s) (Φ := run T n) (b := b) ha.sg
  have M := mkLst_f (s := s) (vs := (prL a b).map .int) (by have := zipL_len a b; have := ha.len; unfold prL; simp; omega)
  have Z := zipV_prE a b
  have c1 := fun k => cnt_ints (s := s) (l := prL a b) (k := k)
  have p1 := cnt_pos (l := prL a b) (k := 1)
  have p2 := cnt_pos (l := prL a b) (k := -1)
  unfold orL
  generalize prL a b = q at *
  simp only [start, List.map_cons, List.map_nil, List.length_cons, List.length_nil, List.cons_append, List.nil_append, Nat.zero_add, Nat.reduceAdd, Nat.reduceSub, List.reduceReplicate]
  simp [-Int.natCast_pos, wipe, Z, C, M, c1, p1, p2, eq_bl]
theorem truth_ok (hT : TgRowT T) {x y : Bool} : run T (n + 1) "_law_is_truth" [.bl x, .bl y] s = .ok (.bl (x == y)) s := by
  rw [run_mk hT.truth rfl]
  cases x <;> cases y <;> rfl
/-! ### plain facts -/
theorem SgL.neg {l : List Int} (h : SgL l) : SgL (negL l) := fun x hx => by
  obtain ⟨y, hy, e⟩ := List.mem_map.mp hx
  have := h y hy
  omega
theorem negL_len (l : List Int) : (negL l).length = l.length := List.length_map ..
theorem negL_neg (l : List Int) : negL (negL l) = l := by
  unfold negL
  rw [List.map_map]
  refine (List.map_congr_left fun x _ => ?_).trans (List.map_id _)
  show - -x = x
  omega
theorem putL_len {a b : List Int} (h : a.length = b.length) : (putL a b).length = a.length := by unfold putL; rw [List.length_map, List.length_zip]; omega
theorem SgL.put {a b : List Int} (h : SgL a) (h2 : SgL b) : SgL (putL a b) := fun x hx => by
  obtain ⟨p, hp, e⟩ := List.mem_map.mp hx
  obtain ⟨m1, m2⟩ := List.of_mem_zip hp
  have := h _ m1
  have := h2 _ m2
  split at e <;> omega
theorem putL_assoc : ∀ {a b c : List Int}, a.length = b.length → b.length = c.length → putL (putL a b) c = putL a (putL b c)
  | [], [], [], _, _ => rfl
  | x :: a, y :: b, z :: c, h1, h2 => by
    have ih := putL_assoc (a := a) (b := b) (c := c) (by simpa using h1) (by simpa using h2)
    unfold putL at *
    simp only [List.zip_cons_cons, List.map_cons]
    rw [ih]
    congr 1
    by_cases hx : x = 0 <;> by_cases hy : y = 0 <;> simp [hx, hy]
  | [], _ :: _, _, h, _ => by simp at h
  | _ :: _, [], _, h, _ => by simp at h
  | [], [], _ :: _, _, h => by simp at h
  | _ :: _, _ :: _, [], _, h => by simp at h
theorem apL_comm {a b : List Int} (h : a.length = b.length) : apL b a = apL a b := by
  unfold apL
  rw [h]
  exact List.filter_congr fun i _ => by rw [Int.mul_comm]
theorem prL_comm : ∀ a b : List Int, prL b a = prL a b
  | [], b => by unfold prL; simp
  | _ :: _, [] => by unfold prL; simp
  | x :: a, y :: b => by
    have ih := prL_comm a b
    unfold prL at *
    simp only [List.zip_cons_cons, List.map_cons, ih, Int.mul_comm]
theorem orL_comm (a b : List Int) : orL b a = orL a b := by unfold orL; rw [prL_comm]
theorem orL_self {a : List Int} (h : SgL a) : orL a a = decide (a = List.replicate a.length 0) := by
  have key : ∀ k : Int, k ∈ prL a a ↔ ∃ x ∈ a, x * x = k := fun k => by
    unfold prL
    rw [List.mem_map]
    have hz : a.zip a = a.map fun x => (x, x) := by
      clear h
      induction a with
      | nil => rfl
      | cons x a ih => rw [List.zip_cons_cons, ih]; rfl
    rw [hz]
    constructor
    · rintro ⟨p, hp, e⟩
      obtain ⟨x, hx, e2⟩ := List.mem_map.mp hp
      subst e2
      exact ⟨x, hx, e⟩
    · rintro ⟨x, hx, e⟩
      exact ⟨(x, x), List.mem_map.mpr ⟨x, hx, rfl⟩, e⟩
  have n1 : ¬ (-1 : Int) ∈ prL a a := fun hm => by
    obtain ⟨x, hx, e⟩ := (key _).mp hm
    have := h x hx
    have : x = -1 ∨ x = 0 ∨ x = 1 := by omega
    rcases this with q | q | q <;> subst q <;> revert e <;> decide
  unfold orL
  by_cases hz : a = List.replicate a.length 0
  · have p1 : ¬ (1 : Int) ∈ prL a a := fun hm => by
      obtain ⟨x, hx, e⟩ := (key _).mp hm
      rw [hz] at hx
      have := List.eq_of_mem_replicate hx
      subst this
      revert e; decide
    simp only [n1, p1, decide_false]
    rw [decide_eq_true hz]
    rfl
  · have p1 : (1 : Int) ∈ prL a a := by
      refine Classical.byContradiction fun hm => hz ?_
      refine List.eq_replicate_iff.mpr ⟨rfl, fun x hx => Classical.byContradiction fun hne => hm ?_⟩
      refine (key _).mpr ⟨x, hx, ?_⟩
      have := h x hx
      have : x = -1 ∨ x = 1 := by omega
      rcases this with q | q <;> subst q <;> rfl
    simp only [n1, p1, decide_false, decide_true]
    rw [decide_eq_false hz]
    rfl
end Mini
namespace Mini
open PySem (Str PyData sizeLine)
/-! ### repr of lists of rows -/
theorem good_from {b : Nat} : ∀ (ts : List Str) (i a : Nat) (acc : Str), Good a acc → (∀ t ∈ ts, Good b t) → Good (a + (b + 2) * ts.length) (PySem.textFrom i acc ts)
  | [], i, a, acc, h, _ => h.mono (by simp)
  | t :: ts, i, a, acc, h, ht => by
    have hc : Good 2 ((", " : String) : Str) := ⟨by decide +kernel, by decide +kernel⟩
    have h1 := ht t (List.mem_cons_self ..)
    unfold PySem.textFrom
    have step : Good (a + (b + 2)) (acc ++ (if i > 0 then ", " else "" : String) ++ t) := by
      have hn : Good 2 (("" : String) : Str) := ⟨by decide +kernel, by decide +kernel⟩
      split
      · exact ((h.app hc).app h1).mono (by omega)
      · exact ((h.app hn).app h1).mono (by omega)
    have := good_from ts (i + 1) (a + (b + 2)) _ step fun x hx => ht x (List.mem_cons_of_mem _ hx)
    refine this.mono ?_
    rw [List.length_cons, Nat.mul_add]
    omega
theorem good_list {b : Nat} {ts : List Str} (h : ∀ t ∈ ts, Good b t) : Good ((b + 2) * ts.length + 2) (PySem.listText ts) := by
  have h1 : Good 1 (("[" : String) : Str) := ⟨by decide +kernel, by decide +kernel⟩
  have h2 : Good 1 (("]" : String) : Str) := ⟨by decide +kernel, by decide +kernel⟩
  exact ((good_from ts 0 1 _ h1 h).app h2).mono (by omega)
theorem sh_list {b k : Nat} {ds : List PyData} (h : ∀ d ∈ ds, Sh b d) (hk : ∀ d ∈ ds, d.depth ≤ k) (hk2 : k < 10) : Sh ((b + 2) * ds.length + 2) (.list ds) := by
  refine ⟨?_, ?_, ?_, ?_⟩
  · simp only [PyData.shown, shownAll_map]
    have := good_list (b := b) (ts := ds.map PyData.shown) fun t ht => by
      obtain ⟨d, hd, e⟩ := List.mem_map.mp ht
      subst e
      exact (h d hd).good
    rwa [List.length_map] at this
  · simp only [PyData.showable]
    exact showableAll_of ds fun d hd => (h d hd).can
  · simp only [PyData.hasDict]
    exact hasDictAll_of ds fun d hd => (h d hd).nd
  · simp only [PyData.depth]
    have := depthAll_of ds hk
    omega
theorem sh_int2 {i : Int} (h0 : -10 < i) (h1 : i < 10) : Sh 2 (.int i) := by
  have : i = -9 ∨ i = -8 ∨ i = -7 ∨ i = -6 ∨ i = -5 ∨ i = -4 ∨ i = -3 ∨ i = -2 ∨ i = -1 ∨ 0 ≤ i := by omega
  rcases this with e | e | e | e | e | e | e | e | e | e
  iterate 9 (subst e; exact ⟨⟨by decide +kernel, by decide +kernel⟩, by decide +kernel, by decide +kernel, by decide +kernel⟩)
  exact (sh_int e h1).mono (by decide)
theorem sh_tupI2 {l : List Int} (h : ∀ x ∈ l, -10 < x ∧ x < 10) (hl : l.length ≤ 20) : Sh 100 (.tuple (l.map .int)) := by
  have := sh_tup (b := 2) (k := 0) (ds := l.map .int) (fun d hd => by
    obtain ⟨x, hx, e⟩ := List.mem_map.mp hd
    subst e
    exact sh_int2 (h x hx).1 (h x hx).2) (fun d hd => by
    obtain ⟨x, hx, e⟩ := List.mem_map.mp hd
    subst e
    simp only [PyData.depth, Nat.le_refl]) (by decide)
  refine this.mono ?_
  rw [List.length_map]
  omega
theorem repr_list {v : PV} {xs : List PyData} {b : Nat} (hv : ∃ ys, v = .lst ys) (hd : toD v = some (.list xs)) (h : Sh b (.list xs)) (hb : b ≤ 1000000) : ∃ t, (∀ s, biF .repr [v] s = some (.str t)) ∧ PyData.strOk t = true := by
  obtain ⟨ys, e⟩ := hv
  subst e
  refine ⟨(PyData.list xs).shown, fun s => ?_, h.good.1⟩
  show ((toD (.lst ys)).bind fun d => if isSq d && showOk d then some (PV.str d.shown) else none) = _
  rw [hd]
  simp only [Option.bind_some]
  rw [if_pos]
  unfold showOk
  rw [h.can, h.nd]
  have h1 := h.dep
  have h2 := h.good.2
  have h3 : (PyData.list xs).shown.length ≤ sizeLine := by rw [PySem.sizeLine_eq]; omega
  simp only [isSq, Bool.true_and, Bool.not_false]
  rw [decide_eq_true (by omega : (PyData.list xs).depth ≤ 60), decide_eq_true h3]
  rfl
/-- repr([row, row]) -/
theorem repr_two {l : List Int} (h : ∀ x ∈ l, -10 < x ∧ x < 10) (hl : l.length ≤ 20) : ∃ t, (∀ s, biF .repr [.lst [tupI l, tupI l]] s = some (.str t)) ∧ PyData.strOk t = true := by
  refine repr_list (xs := [.tuple (l.map .int), .tuple (l.map .int)]) ⟨_, rfl⟩ ?_ (sh_list (b := 100) (k := 1) (fun d hd => ?_) (fun d hd => ?_) (by decide)) (by simp)
  · show (toDs [tupI l, tupI l]).map PyData.list = _
    simp only [toDs, toD_tupI, Option.map_some]
  · simp only [List.mem_cons, List.not_mem_nil, or_false, or_self] at hd
    subst hd
    exact sh_tupI2 h hl
  · simp only [List.mem_cons, List.not_mem_nil, or_false, or_self] at hd
    subst hd
    rw [depth_tupI]
    exact Nat.le_refl _
end Mini

set_option Elab.async false
set_option linter.all false
set_option maxRecDepth 100000
/-! MiniD: vectors and their signs by the laws. -/
namespace Mini
open PySem (Str PyData)
variable {T : Str → Option Fn} {n : Nat} {s : Store}
def f__law_tg_determinant : Fn := ⟨["rows"], ["rows", "found", "turn", "at", "item", "row"], .cons (.iff (.cmp .eq (.bi .len (.cons (.var 0) .nil)) (.int 0)) (.cons (.ret (.int 1)) .nil) .nil) (.cons (.asg (.tp (.cons (.nm 1) (.cons (.nm 2) .nil))) (.tup (.cons (.int 0) (.cons (.int 1) .nil)))) (.cons (.forr (.tp (.cons (.nm 3) (.cons (.nm 4) .nil))) (.enum (.sub (.var 0) (.int 0))) (.cons (.iff (.cmp .ne (.var 4) (.int 0)) (.cons (.asg (.nm 1) (.op .add (.var 1) (.op .mul (.op .mul (.var 2) (.var 4)) (.call "_law_tg_determinant" (.cons (.lc false (.op .add (.slc (.var 5) .nil (.cons (.var 3) .nil)) (.slc (.var 5) (.cons (.op .add (.var 3) (.int 1)) .nil) .nil)) (.nm 5) (.val (.slc (.var 0) (.cons (.int 1) .nil) .nil)) .nil [("row", 5)]) .nil))))) .nil) .nil) (.cons (.asg (.nm 2) (.neg (.var 2))) .nil))) (.cons (.ret (.var 1)) .nil))), false⟩
def f__law_tg_of : Fn := ⟨["rank", "vectors"], ["rank", "vectors", "found", "lot", "number", "element", "sign"], .cons (.asg (.nm 2) (.lst true .nil)) (.cons (.forr (.nm 3) (.val (.call "_law_tg_lots" (.cons (.bi .len (.cons (.var 1) .nil)) (.cons (.var 0) .nil)))) (.cons (.asg (.nm 4) (.call "_law_tg_determinant" (.cons (.lc false (.bi .tuple (.cons (.sub (.var 1) (.var 5)) .nil)) (.nm 5) (.val (.var 3)) .nil [("element", 5)]) .nil))) (.cons (.ex (.meth .append (.var 2) (.cons (.ite (.cmp .eq (.var 4) (.int 0)) (.int 0) (.ite (.cmp .gt (.var 4) (.int 0)) (.int 1) (.neg (.int 1)))) .nil))) .nil))) (.cons (.ret (.ite (.cmp .ne (.lc false (.int 1) (.nm 6) (.val (.var 2)) (.cons (.cmp .ne (.var 6) (.int 0)) .nil) [("sign", 6)]) (.lst false .nil)) (.call "_law_tg_normal" (.cons (.var 2) .nil)) .non)) .nil)), true⟩
def f__law_tg_vectors : Fn := ⟨["state", "size", "rank"], ["state", "size", "rank", "reach", "found", "turn", "way", "vector", "other", "often", "place", "item"], .cons (.asg (.tp (.cons (.nm 3) (.cons (.nm 4) .nil))) (.tup (.cons (.call "_law_pick" (.cons (.var 0) (.cons (.lst false (.cons (.int 1) (.cons (.int 1) (.cons (.int 2) (.cons (.int 3) (.cons (.int 9) .nil)))))) .nil))) (.cons (.lst true .nil) .nil)))) (.cons (.forr (.nm 5) (.rng1 (.var 1)) (.cons (.asg (.nm 6) (.call "_law_draw" (.cons (.var 0) (.cons (.int 8) .nil)))) (.cons (.asg (.nm 7) (.bi .tuple (.cons (.lc false (.op .sub (.call "_law_draw" (.cons (.var 0) (.cons (.op .add (.op .mul (.int 2) (.var 3)) (.int 1)) .nil))) (.var 3)) (.nm 10) (.rng1 (.var 2)) .nil [("place", 10)]) .nil))) (.cons (.iff (.and (.cmp .eq (.var 6) (.int 0)) (.cmp .ne (.var 4) (.lst false .nil))) (.cons (.asg (.nm 8) (.call "_law_pick" (.cons (.var 0) (.cons (.var 4) .nil)))) (.cons (.asg (.nm 9) (.call "_law_pick" (.cons (.var 0) (.cons (.ite (.cmp .le (.bi .max1 (.cons (.op .add (.lc false (.bi .abs (.cons (.var 11) .nil)) (.nm 11) (.val (.var 8)) .nil [("item", 11)]) (.lst false (.cons (.int 0) .nil))) .nil)) (.int 4)) (.lst false (.cons (.int 1) (.cons (.neg (.int 1)) (.cons (.int 2) (.cons (.neg (.int 2)) .nil))))) (.lst false (.cons (.int 1) (.cons (.neg (.int 1)) .nil)))) .nil)))) (.cons (.asg (.nm 7) (.bi .tuple (.cons (.lc false (.op .mul (.var 9) (.var 11)) (.nm 11) (.val (.var 8)) .nil [("item", 11)]) .nil))) .nil))) (.cons (.iff (.and (.cmp .eq (.var 6) (.int 1)) (.cmp .eq (.call "_law_draw" (.cons (.var 0) (.cons (.int 2) .nil))) (.int 0))) (.cons (.asg (.nm 7) (.op .mul (.tup (.cons (.int 0) .nil)) (.var 2))) .nil) .nil) .nil)) (.cons (.ex (.meth .append (.var 4) (.cons (.var 7) .nil))) .nil))))) (.cons (.ret (.bi .tuple (.cons (.var 4) .nil))) .nil)), true⟩
def f__law_tp_signs : Fn := ⟨["state", "size", "rank"], ["state", "size", "rank", "many", "way", "signs", "turn", "known", "at", "lot", "sign"], .cons (.par [3, 4] (.cons (.bi .len (.cons (.call "_law_tg_lots" (.cons (.var 1) (.cons (.var 2) .nil))) .nil)) (.cons (.call "_law_draw" (.cons (.var 0) (.cons (.int 6) .nil))) .nil))) (.cons (.asg (.nm 5) (.lc true (.op .sub (.call "_law_draw" (.cons (.var 0) (.cons (.int 3) .nil))) (.int 1)) (.nm 9) (.rng1 (.var 3)) .nil [("lot", 9)])) (.cons (.iff (.cmp .eq (.var 4) (.int 0)) (.cons (.asg (.nm 5) (.lc true (.op .sub (.int 1) (.op .mul (.int 2) (.call "_law_draw" (.cons (.var 0) (.cons (.int 2) .nil))))) (.nm 9) (.rng1 (.var 3)) .nil [("lot", 9)])) .nil) (.cons (.iff (.cmp .eq (.var 4) (.int 1)) (.cons (.asg (.nm 5) (.mop .mul (.lst false (.cons (.int 0) .nil)) (.var 3))) (.cons (.forr (.nm 6) (.rng1 (.int 2)) (.cons (.asg (.sb (.var 5) (.call "_law_draw" (.cons (.var 0) (.cons (.var 3) .nil)))) (.op .sub (.int 1) (.op .mul (.int 2) (.call "_law_draw" (.cons (.var 0) (.cons (.int 2) .nil)))))) .nil)) .nil)) (.cons (.iff (.cmp .gt (.var 4) (.int 2)) (.cons (.asg (.nm 7) (.call "_law_tg_of" (.cons (.var 2) (.cons (.call "_law_tg_vectors" (.cons (.var 0) (.cons (.var 1) (.cons (.var 2) .nil)))) .nil)))) (.cons (.asg (.nm 5) (.ite (.cmp .isnot (.var 7) .non) (.mls (.var 7)) (.var 5))) (.cons (.iff (.cmp .gt (.var 4) (.int 3)) (.cons (.asg (.nm 8) (.call "_law_draw" (.cons (.var 0) (.cons (.var 3) .nil)))) (.cons (.asg (.sb (.var 5) (.var 8)) (.call "_law_pick" (.cons (.var 0) (.cons (.lst false (.cons (.int 0) (.cons (.neg (.sub (.var 5) (.var 8))) (.cons (.int 1) .nil)))) .nil)))) .nil)) .nil) .nil))) .nil) .nil)) .nil)) (.cons (.iff (.cmp .eq (.lc false (.int 1) (.nm 10) (.val (.var 5)) (.cons (.cmp .ne (.var 10) (.int 0)) .nil) [("sign", 10)]) (.lst false .nil)) (.cons (.asg (.sb (.var 5) (.call "_law_draw" (.cons (.var 0) (.cons (.var 3) .nil)))) (.int 1)) .nil) .nil) (.cons (.ret (.call "_law_tg_normal" (.cons (.var 5) .nil))) .nil)))), true⟩
structure DetT (T : Str → Option Fn) : Prop where
  det : T "_law_tg_determinant" = some f__law_tg_determinant
structure OfT (T : Str → Option Fn) : Prop extends DetT T, TgT T where
  of_ : T "_law_tg_of" = some f__law_tg_of
theorem add_tupIs {a b : List Int} (h : a.length + b.length ≤ 16777216) : bop .add (tupI a) (tupI b) s = some (tupI (a ++ b)) := by
  show (if szOk ((a.map PV.int).length + (b.map PV.int).length) then some (PV.tup (a.map PV.int ++ b.map .int)) else none) = _
  rw [if_pos (szOk_of (by rw [List.length_map, List.length_map]; exact h)), ← List.map_append]
  rfl
theorem slc_lst_from {l : List PV} {j : Nat} (h : j ≤ l.length) : slcG (.lst l) (some (j : Int)) none s = some (.lst (l.drop j)) := by
  show some (PV.lst (cutP l (some (j : Int)) none)) = _
  unfold cutP
  rw [HT.sIx_nat, HT.sIx_none, Nat.min_eq_left h, List.take_of_length_le]
  rw [List.length_drop]
  exact Nat.le_refl _
def Bd (b : Int) (l : List Int) : Prop := ∀ x ∈ l, -b ≤ x ∧ x ≤ b
def cutAt (at_ : Nat) (row : List Int) : List Int := row.take at_ ++ row.drop (at_ + 1)
theorem cutAt_len {at_ m : Nat} {row : List Int} (h : row.length = m + 1) (ha : at_ < m + 1) : (cutAt at_ row).length = m := by
  unfold cutAt
  rw [List.length_append, List.length_take, List.length_drop]
  omega
theorem cutAt_bd {at_ : Nat} {b : Int} {row : List Int} (h : Bd b row) : Bd b (cutAt at_ row) := fun x hx => by
  unfold cutAt at hx
  rcases List.mem_append.mp hx with q | q
  · exact h x (List.mem_of_mem_take q)
  · exact h x (List.mem_of_mem_drop q)
abbrev det1 : Ss := .cons (.iff (.cmp .ne (.var 4) (.int 0)) (.cons (.asg (.nm 1) (.op .add (.var 1) (.op .mul (.op .mul (.var 2) (.var 4)) (.call "_law_tg_determinant" (.cons (.lc false (.op .add (.slc (.var 5) .nil (.cons (.var 3) .nil)) (.slc (.var 5) (.cons (.op .add (.var 3) (.int 1)) .nil) .nil)) (.nm 5) (.val (.slc (.var 0) (.cons (.int 1) .nil) .nil)) .nil [("row", 5)]) .nil))))) .nil) .nil) (.cons (.asg (.nm 2) (.neg (.var 2))) .nil)
theorem det_ok (hT : DetT T) : ∀ (m : Nat) (rows : List (List Int)), m < 1000 → rows.length = m → (∀ row ∈ rows, row.length = m ∧ Bd 1000 row) → ∀ s, ∃ v : Int, run T (n + m + 1) "_law_tg_determinant" [.lst (rows.map tupI)] s = .ok (.int v) s
  | 0, rows, _, hl, _, s => by
    have e := List.eq_nil_of_length_eq_zero hl
    subst e
    refine ⟨1, ?_⟩
    rw [run_mk hT.det rfl]
    simp [start]
  | m + 1, [], _, hl, _, _ => by cases hl
  | m + 1, r0 :: rs, hm, hl, hb, s => by
    have ih := det_ok hT m
    have hrs : rs.length = m := by simpa using hl
    have h0 := hb r0 (List.mem_cons_self ..)
    have hz : ∀ p ∈ r0.zipIdx, p.2 < m + 1 ∧ -1000 ≤ p.1 ∧ p.1 ≤ 1000 := fun p hp => by
      have q := List.mem_zipIdx hp
      have h1 := q.2.1
      refine ⟨by have := h0.1; omega, ?_⟩
      have : p.1 ∈ r0 := by rw [q.2.2]; exact List.getElem_mem _
      exact h0.2 _ this
    obtain ⟨ρ', s', e, e1, _, fd, tn, j3, j4, j5, _, e2⟩ := forGo_inv (X := Int × Nat) (enc := encP) (wt := []) (bind := fun x ρ => evTg (run T (n + (m + 1))) (.tp (.cons (.nm 3) (.cons (.nm 4) .nil))) x ρ) (body := exSs (run T (n + (m + 1))) det1)
      (fun r ρ s' => s' = s ∧ (∀ p ∈ r, p.2 < m + 1 ∧ -1000 ≤ p.1 ∧ p.1 ≤ 1000) ∧ ∃ (fd tn : Int) (j3 j4 j5 : Option PV), (tn = 1 ∨ tn = -1) ∧ ρ = [some (.lst ((r0 :: rs).map tupI)), some (.int fd), some (.int tn), j3, j4, j5]) (fun _ _ _ _ => rfl)
      (fun p r ρ s' ⟨es, hp, fd, tn, j3, j4, j5, ht, eρ⟩ => by
        subst es eρ
        obtain ⟨x, i⟩ := p
        have hx := hp _ (List.mem_cons_self ..)
        have hxi : i < m + 1 := hx.1
        refine ⟨[some (.lst ((r0 :: rs).map tupI)), some (.int fd), some (.int tn), some (.int i), some (.int x), j5], s', by simp [encP], ?_⟩
        by_cases hx0 : x = 0
        · refine ⟨[some (.lst ((r0 :: rs).map tupI)), some (.int fd), some (.int (-tn)), some (.int i), some (.int x), j5], s', .inl ?_, rfl, fun p q => hp p (List.mem_cons_of_mem _ q), _, _, _, _, _, by omega, rfl⟩
          simp [hx0]
        · obtain ⟨v, hv⟩ := ih (rs.map (cutAt i)) (by omega) (by rw [List.length_map]; exact hrs) (fun row hrow => by
            obtain ⟨row', h1, h2⟩ := List.mem_map.mp hrow
            subst h2
            have := hb row' (List.mem_cons_of_mem _ h1)
            exact ⟨cutAt_len this.1 hxi, cutAt_bd this.2⟩) s'
          have hv : run T (n + (m + 1)) "_law_tg_determinant" [.lst ((rs.map (cutAt i)).map tupI)] s' = .ok (.int v) s' := hv
          have C : compGo [] (fun x_1 => evTg (run T (n + (m + 1))) (.nm 5) x_1 [some (.lst ((r0 :: rs).map tupI)), some (.int fd), some (.int tn), some (.int i), some (.int x), none]) (evIf (run T (n + (m + 1))) .nil) (fun ρ => (evE (run T (n + (m + 1))) (.op .add (.slc (.var 5) .nil (.cons (.var 3) .nil)) (.slc (.var 5) (.cons (.op .add (.var 3) (.int 1)) .nil) .nil)) ρ).bnd fun y => M.ret [y]) (rs.map tupI) s' = .ok ((rs.map (cutAt i)).map tupI) s' := by
            rw [List.map_map]
            refine compGo_map (enc := tupI) _ rfl rs fun row hrow => ?_
            have hr := (hb row (List.mem_cons_of_mem _ hrow)).1
            refine ⟨[some (.lst ((r0 :: rs).map tupI)), some (.int fd), some (.int tn), some (.int i), some (.int x), some (tupI row)], by simp, by simp, ?_⟩
            have a := slc_tupI_to (s := s') (l := row) (j := i) (by omega)
            have b := slc_tupI_from (s := s') (l := row) (j := i + 1) (by omega)
            have b' : slcG (tupI row) (some ((i : Int) + 1)) none s' = some (tupI (row.drop (i + 1))) := b
            have c := add_tupIs (s := s') (a := row.take i) (b := row.drop (i + 1)) (by rw [List.length_take, List.length_drop]; omega)
            simp [a, b', c, cutAt]
          have Mk := mkLst_f (s := s') (vs := (rs.map (cutAt i)).map tupI) (by rw [List.length_map, List.length_map]; omega)
          have sl : slcG (.lst ((r0 :: rs).map tupI)) (some 1) none s' = some (.lst (rs.map tupI)) := slc_lst_from (l := (r0 :: rs).map tupI) (j := 1) (by simp)
          have m1 := mulL_ (s := s') (i := tn) (j := x) (by rcases ht with q | q <;> subst q <;> decide)
          have hsm : small64 (tn * x) = true := by
            unfold small64
            refine decide_eq_true ?_
            rcases ht with q | q <;> subst q <;> omega
          have m2 := mulL_ (s := s') (i := tn * x) (j := v) hsm
          refine ⟨[some (.lst ((r0 :: rs).map tupI)), some (.int (fd + tn * x * v)), some (.int (-tn)), some (.int i), some (.int x), j5], s', .inl ?_, rfl, fun p q => hp p (List.mem_cons_of_mem _ q), _, _, _, _, _, by omega, rfl⟩
          generalize (r0 :: rs).map tupI = RR at *
          generalize rs.map (cutAt i) = cc at *
          simp [hx0, sl, wipe, C, Mk, hv, m1, m2])
      r0.zipIdx [some (.lst ((r0 :: rs).map tupI)), some (.int 0), some (.int 1), none, none, none] s ⟨rfl, hz, 0, 1, none, none, none, .inl rfl, rfl⟩
    subst e1 e2
    refine ⟨fd, ?_⟩
    rw [run_mk hT.det rfl]
    have en := enumV_ints r0
    have su : subG (.lst (tupI r0 :: rs.map tupI)) (.int 0) s' = some (tupI r0) := by
      rw [sub_lst, atI_in (by decide) (by simp only [List.length_cons]; omega)]
      rfl
    rw [List.map_cons] at e
    have hne : ¬ ((rs.length : Int) + 1 = 0) := by omega
    simp [start, hne, su, en, e]
theorem fstN_ne {l : List Int} (h : ∃ x ∈ l, x ≠ 0) : fstN l ≠ 0 := by
  rcases fstN_cases l with ⟨e, _⟩ | ⟨r, _, e⟩
  · obtain ⟨x, hx, h0⟩ := h
    have : x ∈ l.filter (fun x => decide (x ≠ 0)) := List.mem_filter.mpr ⟨hx, decide_eq_true h0⟩
    rw [e] at this
    cases this
  · exact e
/-- drawn vectors -/
def Vec (m : Nat) (vs : List (List Int)) : Prop := ∀ v ∈ vs, v.length = m ∧ Bd 9 v
theorem comp_ones {Φ : Str → List PV → M PV} {ρ : Env} {j : Nat} {wt : List (Nat × List PV)} (hst : stays wt s = true) (l : List Int) (hw : ∀ x : Int, ∃ ρ1, evTg Φ (.nm j) (.int x) ρ s = .ok ρ1 s ∧ ρ1[j]?.join = some (.int x)) : compGo wt (fun x => evTg Φ (.nm j) x ρ) (evIf Φ (.cons (.cmp .ne (.var j) (.int 0)) .nil)) (fun ρ => (evE Φ (.int 1) ρ).bnd fun y => M.ret [y]) (l.map .int) s = .ok (((l.filter fun x => decide (x ≠ 0)).map fun _ => (1 : Int)).map .int) s := by
  refine nonz_compW (s := s) l wt hst (.int 1) (fun _ => 1) fun x => ?_
  obtain ⟨ρ1, e1, e2⟩ := hw x
  exact ⟨ρ1, e1, e2, by simp⟩
theorem ones_nil (l : List Int) : ((l.filter fun x => decide (x ≠ 0)).map fun _ => (1 : Int)) = [] ↔ ∀ x ∈ l, x = 0 := by
  rw [List.map_eq_nil_iff, List.filter_eq_nil_iff]
  constructor
  · intro h x hx
    have := h x hx
    simpa using this
  · intro h x hx
    simp [h x hx]
theorem tg_of_ok (hT : OfT T) {rank : Nat} (hr : rank ≤ 9) {vs : List (List Int)} (hv : Vec rank vs) (hl : vs.length ≤ 9) :
    ∃ o, run T (n + rank + 3) "_law_tg_of" [.int rank, .tup (vs.map tupI)] s = .ok o s ∧ (o = .non ∨ ∃ sg, o = tupI sg ∧ SgL sg ∧ sg.length = (lotsN vs.length rank).length ∧ fstN sg = 1) := by
  have hb : ∀ k, k ≤ rank → (lotsN vs.length k).length ≤ 16777216 := fun k hk => Nat.le_trans (lots_le (by omega) (by omega) (by omega)) (by decide)
  have hb2 := lots_le (size := vs.length) (k := rank) (by omega) (by omega) (by omega)
  obtain ⟨ρ', s', e, done, e1, d1, d2, hin, j3, j4, e2⟩ := forGo_inv (X := List Int) (enc := tupI) (wt := []) (bind := fun x ρ => evTg (run T (n + rank + 2)) (.nm 3) x ρ) (body := exSs (run T (n + rank + 2)) (.cons (.asg (.nm 4) (.call "_law_tg_determinant" (.cons (.lc false (.bi .tuple (.cons (.sub (.var 1) (.var 5)) .nil)) (.nm 5) (.val (.var 3)) .nil [("element", 5)]) .nil))) (.cons (.ex (.meth .append (.var 2) (.cons (.ite (.cmp .eq (.var 4) (.int 0)) (.int 0) (.ite (.cmp .gt (.var 4) (.int 0)) (.int 1) (.neg (.int 1)))) .nil))) .nil)))
    (fun r ρ s' => ∃ done : List Int, s' = s ++ [.lst (done.map .int)] ∧ SgL done ∧ done.length + r.length = (lotsN vs.length rank).length ∧ (∀ l ∈ r, l ∈ lotsN vs.length rank) ∧ ∃ j3 j4, ρ = [some (.int rank), some (.tup (vs.map tupI)), some (.ref s.length), j3, j4, none, none]) (fun _ _ _ _ => rfl)
    (fun lot r ρ s' ⟨done, es, d1, d2, hin, j3, j4, eρ⟩ => by
      subst es eρ
      rw [List.length_cons] at d2
      have hlot := mem_lots.mp (hin lot (List.mem_cons_self ..))
      refine ⟨[some (.int rank), some (.tup (vs.map tupI)), some (.ref s.length), some (tupI lot), j4, none, none], s ++ [.lst (done.map .int)], by simp, ?_⟩
      have C : compGo [] (fun x => evTg (run T (n + rank + 2)) (.nm 5) x [some (.int rank), some (.tup (vs.map tupI)), some (.ref s.length), some (tupI lot), j4, none, none]) (evIf (run T (n + rank + 2)) .nil) (fun ρ => (evE (run T (n + rank + 2)) (.bi .tuple (.cons (.sub (.var 1) (.var 5)) .nil)) ρ).bnd fun y => M.ret [y]) (lot.map .int) (s ++ [.lst (done.map .int)]) = .ok ((lot.map fun x => vs.getD x.toNat []).map tupI) (s ++ [.lst (done.map .int)]) := by
        rw [List.map_map]
        refine compGo_map (enc := PV.int) _ rfl lot fun x hx => ?_
        have hx' := hlot.2.2 x hx
        refine ⟨[some (.int rank), some (.tup (vs.map tupI)), some (.ref s.length), some (tupI lot), j4, some (.int x), none], by simp, by simp, ?_⟩
        have z : subG (.tup (vs.map tupI)) (.int x) (s ++ [.lst (done.map .int)]) = some (tupI (vs.getD x.toNat [])) := by
          rw [sub_tup, atI_in hx'.1 (by rw [List.length_map]; exact hx'.2)]
          have hl : x.toNat < vs.length := by omega
          simp [List.getD_eq_getElem?_getD, List.getElem?_eq_getElem hl]
        simp [z]
      have Mk := mkLst_f (s := s ++ [.lst (done.map .int)]) (vs := (lot.map fun x => vs.getD x.toNat []).map tupI) (by rw [List.length_map, List.length_map]; omega)
      obtain ⟨v, hdet⟩ := det_ok hT.toDetT (n := n + 1) rank (lot.map fun x => vs.getD x.toNat []) (by omega) (by rw [List.length_map]; exact hlot.1) (fun row hrow => by
        obtain ⟨x, hx, e⟩ := List.mem_map.mp hrow
        have hx' := hlot.2.2 x hx
        have hl : x.toNat < vs.length := by omega
        rw [List.getD_eq_getElem?_getD, List.getElem?_eq_getElem hl] at e
        have e : vs[x.toNat] = row := e
        have := hv _ (List.getElem_mem hl)
        rw [e] at this
        exact ⟨this.1, fun y hy => by have := this.2 y hy; omega⟩) (s ++ [.lst (done.map .int)])
      have hdet : run T (n + rank + 2) "_law_tg_determinant" [.lst ((lot.map fun x => vs.getD x.toNat []).map tupI)] (s ++ [.lst (done.map .int)]) = .ok (.int v) (s ++ [.lst (done.map .int)]) := by
        have : n + 1 + rank + 1 = n + rank + 2 := by omega
        rw [this] at hdet
        exact hdet
      generalize (lot.map fun x => vs.getD x.toNat []) = ro at *
      have hdl : (done.map PV.int).length < 16777216 := by rw [List.length_map]; omega
      have fin : ∀ u : Int, -1 ≤ u ∧ u ≤ 1 → SgL (done ++ [u]) := fun u hu x hx => by
        rcases List.mem_append.mp hx with q | q
        · exact d1 x q
        · rw [List.mem_singleton.mp q]; exact hu
      have AP : ∀ u : Int, M.liftS (meth .append (.ref s.length) [.int u]) (s ++ [.lst (done.map .int)]) = .ok .non (s ++ [.lst ((done ++ [u]).map .int)]) := fun u => by
        rw [app_end hdl]; simp
      have hin' : ∀ l ∈ r, l ∈ lotsN vs.length rank := fun l q => hin l (List.mem_cons_of_mem _ q)
      by_cases h0 : v = 0
      · refine ⟨[some (.int rank), some (.tup (vs.map tupI)), some (.ref s.length), some (tupI lot), some (.int v), none, none], s ++ [.lst ((done ++ [0]).map .int)], .inl ?_, done ++ [0], rfl, fin 0 (by decide), by rw [List.length_append]; simp; omega, hin', _, _, rfl⟩
        have := AP 0
        subst h0
        simp [-List.map_append, wipe, C, Mk, hdet, lstOf_end, this]
      · by_cases h1 : 0 < v
        · refine ⟨[some (.int rank), some (.tup (vs.map tupI)), some (.ref s.length), some (tupI lot), some (.int v), none, none], s ++ [.lst ((done ++ [1]).map .int)], .inl ?_, done ++ [1], rfl, fin 1 (by decide), by rw [List.length_append]; simp; omega, hin', _, _, rfl⟩
          have := AP 1
          simp [-List.map_append, wipe, C, Mk, hdet, lstOf_end, h0, h1, this]
        · refine ⟨[some (.int rank), some (.tup (vs.map tupI)), some (.ref s.length), some (tupI lot), some (.int v), none, none], s ++ [.lst ((done ++ [-1]).map .int)], .inl ?_, done ++ [-1], rfl, fin (-1) (by decide), by rw [List.length_append]; simp; omega, hin', _, _, rfl⟩
          have := AP (-1)
          simp [-List.map_append, wipe, C, Mk, hdet, lstOf_end, h0, h1, this])
    (lotsN vs.length rank) [some (.int rank), some (.tup (vs.map tupI)), some (.ref s.length), none, none, none, none] (s ++ [.lst []]) ⟨[], rfl, fun x hx => by (cases hx), by simp, fun l h => h, none, none, rfl⟩
  subst e1 e2
  simp only [List.length_nil, Nat.add_zero] at d2
  have lo := tg_lots_ok hT.toLotsT (n := n + rank + 1) (s := s ++ [.lst []]) (size := vs.length) (many := rank) (by omega) (by omega) (by omega) hb
  have lo : run T (n + rank + 2) "_law_tg_lots" [.int vs.length, .int rank] (s ++ [.lst []]) = _ := lo
  have C := comp_ones (s := s ++ [.lst (done.map .int)]) (Φ := run T (n + rank + 2)) (ρ := [some (.int rank), some (.tup (vs.map tupI)), some (.ref s.length), j3, j4, none, none]) (j := 6) (pstays_watch _ (.ref s.length)) done fun x => ⟨[some (.int rank), some (.tup (vs.map tupI)), some (.ref s.length), j3, j4, none, some (.int x)], by simp, rfl⟩
  have hq := ones_nil done
  have hlf : ((done.filter fun x => decide (x ≠ 0)).map fun _ => (1 : Int)).length ≤ done.length := by rw [List.length_map]; exact List.length_filter_le _ _
  generalize ((done.filter fun x => decide (x ≠ 0)).map fun _ => (1 : Int)) = w at *
  have Mk := mkLst_f (s := s ++ [.lst (done.map .int)]) (vs := w.map .int) (by rw [List.length_map]; omega)
  have so : seqOf (s ++ [.lst (done.map .int)]) (.ref s.length) = some (done.map .int) := seqOf_ref end_at
  have NM := tg_normal_ok hT.normal (n := n + rank + 1) so (by omega)
  have NM : run T (n + rank + 2) "_law_tg_normal" [.ref s.length] (s ++ [.lst (done.map .int)]) = _ := NM
  have Mt := mkLst_t (s := s) (vs := []) (by simp)
  rw [run_mk hT.of_ rfl]
  by_cases hw : w = []
  · refine ⟨.non, ?_, .inl rfl⟩
    subst hw
    have q := ne_ints0 (s := s ++ [.lst (done.map .int)]) (a := [])
    rw [List.map_nil] at q C Mk
    simp [start, Mt, lo, e, so, wipe, C, Mk, q, fin_ex Lk_non]
  · refine ⟨tupI (normI done), ?_, .inr ⟨_, rfl, normI_sg d1, by rw [normI_len]; exact d2, fstN_norm d1 (fstN_ne ?_)⟩⟩
    · have lk : Lk (tupI (normI done)) := fun _ _ => lock_tupI
      simp [start, Mt, lo, e, so, wipe, C, Mk, hw, NM, fin_ex lk]
    · have : ¬ ∀ x ∈ done, x = 0 := fun h => hw (hq.mpr h)
      exact Classical.byContradiction fun h => this fun x hx => Classical.byContradiction fun h0 => h ⟨x, hx, h0⟩
theorem pick_ref (hT : DrawT T) (d : DSt) (r : Store) {k : Nat} (xs : List PV) (hs : ∀ d : DSt, (encS d ++ r)[k]? = some (.lst xs)) (hk : xs ≠ []) (hk2 : xs.length < 1000000) (h0 : 0 ≤ d.turn) (h1 : d.turn < 2 ^ 40) : ∃ (x : PV) (d' : DSt), x ∈ xs ∧ run T (n + 3) "_law_pick" [.ref 1, .ref k] (encS d ++ r) = .ok x (encS d' ++ r) ∧ d.turn ≤ d'.turn ∧ d'.turn ≤ d.turn + 1 := by
  have hl : 0 < xs.length := by cases xs with
    | nil => exact absurd rfl hk
    | cons _ _ => simp
  obtain ⟨v, d', e, v0, v1, t0, t1⟩ := draw_ok hT.toDraw0T (n := n) d r (xs.length : Int) (by omega) (by omega) h0 h1
  refine ⟨xs[v.toNat]'(by omega), d', List.getElem_mem _, ?_, t0, t1⟩
  rw [run_mk hT.pick rfl]
  have z : subG (.ref k) (.int v) (encS d' ++ r) = some (xs[v.toNat]'(by omega)) := by
    have dn : dicOf (encS d' ++ r) (.ref k) = none := by
      show (match (encS d' ++ r)[k]? with | some (.dic t ks vs) => some (t, ks, vs) | _ => none) = _
      rw [hs d']
    show (match dicOf (encS d' ++ r) (.ref k) with | some (t, ks, vs) => if keyOk t (.int v) then dget ks vs (.int v) else none | none => (match seqOf (encS d' ++ r) (.ref k), PV.int v with | some xs, .int j => L2.atI xs j | _, _ => none)) = _
    rw [dn, seqOf_ref (hs d')]
    exact atI_in v0 v1
  simp [start, len_ref (hs d), e, z]
structure VecT (T : Str → Option Fn) : Prop extends DrawT T where
  vectors : T "_law_tg_vectors" = some f__law_tg_vectors
theorem maxL_ge : ∀ (l : List Int) (x : Int), x ∈ l → x ≤ maxL l
  | [], _, h => by cases h
  | [y], x, h => by rw [List.mem_singleton.mp h]; exact Int.le_refl _
  | y :: z :: r, x, h => by
    have ih := maxL_ge (z :: r)
    show x ≤ (if y ≤ maxL (z :: r) then maxL (z :: r) else y)
    rcases List.mem_cons.mp h with q | q
    · subst q; split <;> omega
    · have := ih x q
      split <;> omega
theorem st_alloc {d : DSt} {r : Store} {o : SO} : encS d ++ r ++ [o] = encS d ++ (r ++ [o]) := List.append_assoc ..
theorem st_len {d : DSt} {r : Store} : (encS d ++ r).length = r.length + 2 := by rw [List.length_append, encS_len]; omega
/-- a small vector drawn: [draw(2 * reach + 1) - reach for place in range(rank)] -/
theorem comp_draws {Φ : Str → List PV → M PV} {ρ : Env} {j : Nat} {el : E} (k : Nat) (r : Store) (P : Int → Prop) (hw : ∀ x : Int, ∀ s, ∃ ρ1, evTg Φ (.nm j) (.int x) ρ s = .ok ρ1 s ∧ ∀ d : DSt, 0 ≤ d.turn → d.turn < 2 ^ 40 → ∃ (y : Int) (d' : DSt), evE Φ el ρ1 (encS d ++ r) = .ok (.int y) (encS d' ++ r) ∧ P y ∧ d.turn ≤ d'.turn ∧ d'.turn ≤ d.turn + 1) :
    ∀ (d : DSt), 0 ≤ d.turn → d.turn + k < 2 ^ 40 → ∀ xs : List Int, xs.length = k → ∃ (ys : List Int) (d' : DSt), compGo [] (fun x => evTg Φ (.nm j) x ρ) (evIf Φ .nil) (fun ρ => (evE Φ el ρ).bnd fun y => M.ret [y]) (xs.map .int) (encS d ++ r) = .ok (ys.map .int) (encS d' ++ r) ∧ ys.length = k ∧ (∀ y ∈ ys, P y) ∧ d.turn ≤ d'.turn ∧ d'.turn ≤ d.turn + k := by
  induction k with
  | zero =>
    intro d h0 h1 xs hl
    have := List.eq_nil_of_length_eq_zero hl
    subst this
    exact ⟨[], d, by simp [compGo], rfl, (fun y hy => by cases hy), Int.le_refl _, by omega⟩
  | succ k ih =>
    intro d h0 h1 xs hl
    match xs, hl with
    | x :: xs, hl =>
      obtain ⟨ρ1, e1, hd⟩ := hw x (encS d ++ r)
      obtain ⟨y, d1, e2, p, t0, t1⟩ := hd d h0 (by omega)
      obtain ⟨ys, d2, e3, l3, p3, t2, t3⟩ := ih d1 (by omega) (by omega) xs (by simpa using hl)
      refine ⟨y :: ys, d2, ?_, by rw [List.length_cons, l3], fun z hz => ?_, by omega, by omega⟩
      · rw [List.map_cons]
        unfold compGo
        simp only [stays_nil, if_true, e1, evIf_nil, bnd_eq, e2, bR_ok, ret_eq, e3]
        rfl
      · rcases List.mem_cons.mp hz with q | q
        · rw [q]; exact p
        · exact p3 z q
abbrev tv1 : Ss := .cons (.asg (.nm 6) (.call "_law_draw" (.cons (.var 0) (.cons (.int 8) .nil)))) (.cons (.asg (.nm 7) (.bi .tuple (.cons (.lc false (.op .sub (.call "_law_draw" (.cons (.var 0) (.cons (.op .add (.op .mul (.int 2) (.var 3)) (.int 1)) .nil))) (.var 3)) (.nm 10) (.rng1 (.var 2)) .nil [("place", 10)]) .nil))) (.cons (.iff (.and (.cmp .eq (.var 6) (.int 0)) (.cmp .ne (.var 4) (.lst false .nil))) (.cons (.asg (.nm 8) (.call "_law_pick" (.cons (.var 0) (.cons (.var 4) .nil)))) (.cons (.asg (.nm 9) (.call "_law_pick" (.cons (.var 0) (.cons (.ite (.cmp .le (.bi .max1 (.cons (.op .add (.lc false (.bi .abs (.cons (.var 11) .nil)) (.nm 11) (.val (.var 8)) .nil [("item", 11)]) (.lst false (.cons (.int 0) .nil))) .nil)) (.int 4)) (.lst false (.cons (.int 1) (.cons (.neg (.int 1)) (.cons (.int 2) (.cons (.neg (.int 2)) .nil))))) (.lst false (.cons (.int 1) (.cons (.neg (.int 1)) .nil)))) .nil)))) (.cons (.asg (.nm 7) (.bi .tuple (.cons (.lc false (.op .mul (.var 9) (.var 11)) (.nm 11) (.val (.var 8)) .nil [("item", 11)]) .nil))) .nil))) (.cons (.iff (.and (.cmp .eq (.var 6) (.int 1)) (.cmp .eq (.call "_law_draw" (.cons (.var 0) (.cons (.int 2) .nil))) (.int 0))) (.cons (.asg (.nm 7) (.op .mul (.tup (.cons (.int 0) .nil)) (.var 2))) .nil) .nil) .nil)) (.cons (.ex (.meth .append (.var 4) (.cons (.var 7) .nil))) .nil)))
abbrev tv2 : Ss := .cons (.asg (.nm 8) (.call "_law_pick" (.cons (.var 0) (.cons (.var 4) .nil)))) (.cons (.asg (.nm 9) (.call "_law_pick" (.cons (.var 0) (.cons (.ite (.cmp .le (.bi .max1 (.cons (.op .add (.lc false (.bi .abs (.cons (.var 11) .nil)) (.nm 11) (.val (.var 8)) .nil [("item", 11)]) (.lst false (.cons (.int 0) .nil))) .nil)) (.int 4)) (.lst false (.cons (.int 1) (.cons (.neg (.int 1)) (.cons (.int 2) (.cons (.neg (.int 2)) .nil))))) (.lst false (.cons (.int 1) (.cons (.neg (.int 1)) .nil)))) .nil)))) (.cons (.asg (.nm 7) (.bi .tuple (.cons (.lc false (.op .mul (.var 9) (.var 11)) (.nm 11) (.val (.var 8)) .nil [("item", 11)]) .nil))) .nil))
/-- another one of the vectors, stretched -/
theorem tv2_ok (hT : DrawT T) {m : Nat} (hm : m ≤ 9) (d : DSt) (r : Store) {vs : List (List Int)} (hv : Vec m vs) (hne : vs ≠ []) (hl : vs.length < 1000) {k : Nat} (hs : ∀ d : DSt, (encS d ++ r)[k]? = some (.lst (vs.map tupI))) (h0 : 0 ≤ d.turn) (h1 : d.turn + 2 < 2 ^ 40) {a1 a2 a3 a5 a6 a7 a8 a9 : Option PV} :
    ∃ (v : List Int) (d' : DSt) (j8 j9 : Option PV), exSs (run T (n + 3)) tv2 [some (.ref 1), a1, a2, a3, some (.ref k), a5, a6, a7, a8, a9, none, none] (encS d ++ r) = .ok (.nx [some (.ref 1), a1, a2, a3, some (.ref k), a5, a6, some (tupI v), j8, j9, none, none]) (encS d' ++ r) ∧ v.length = m ∧ Bd 9 v ∧ d.turn ≤ d'.turn ∧ d'.turn ≤ d.turn + 2 := by
  obtain ⟨x, d1, hx, e1, t0, t1⟩ := pick_ref hT (n := n) d r (vs.map tupI) hs (by simpa using hne) (by rw [List.length_map]; omega) h0 (by omega)
  obtain ⟨o, ho, eo⟩ := List.mem_map.mp hx
  subst eo
  have hov := hv o ho
  have C1 : ∀ (s : Store), compGo [] (fun x => evTg (run T (n + 3)) (.nm 11) x [some (.ref 1), a1, a2, a3, some (.ref k), a5, a6, a7, some (tupI o), a9, none, none]) (evIf (run T (n + 3)) .nil) (fun ρ => (evE (run T (n + 3)) (.bi .abs (.cons (.var 11) .nil)) ρ).bnd fun y => M.ret [y]) (o.map .int) s = .ok ((o.map absI).map .int) s := fun s => by
    rw [List.map_map]
    refine compGo_map (enc := PV.int) _ rfl o fun x hx => ⟨[some (.ref 1), a1, a2, a3, some (.ref k), a5, a6, a7, some (tupI o), a9, none, some (.int x)], by simp, by simp, by simp [absI]⟩
  have M1 := fun s => mkLst_f (s := s) (vs := (o.map absI).map .int) (by rw [List.length_map, List.length_map]; omega)
  have M0 := fun s => mkLst_f (s := s) (vs := [PV.int 0]) (by simp)
  have A := fun s => addL_lst (s := s) (xs := (o.map absI).map .int) (ys := [.int 0]) (by rw [List.length_map, List.length_map]; simp; omega)
  have eA : (o.map absI).map PV.int ++ [.int 0] = (o.map absI ++ [0]).map .int := by simp
  rw [eA] at A
  have MX : ∀ s, biF .max1 [.lst ((o.map absI ++ [0]).map .int)] s = some (.int (maxL (o.map absI ++ [0]))) := fun s => by
    show ((lstOf s (.lst ((o.map absI ++ [0]).map .int))).bind intsOf).bind (fun ns => if ns.isEmpty then none else some (PV.int (maxL ns))) = _
    rw [lstOf_lst]
    simp only [Option.bind_some, intsOf_ints]
    rw [if_neg]
    simp
  have C2 : ∀ (s : Store) (of_ : Int), small64 of_ = true → compGo [] (fun x => evTg (run T (n + 3)) (.nm 11) x [some (.ref 1), a1, a2, a3, some (.ref k), a5, a6, a7, some (tupI o), some (.int of_), none, none]) (evIf (run T (n + 3)) .nil) (fun ρ => (evE (run T (n + 3)) (.op .mul (.var 9) (.var 11)) ρ).bnd fun y => M.ret [y]) (o.map .int) s = .ok ((o.map fun x => of_ * x).map .int) s := fun s of_ hof => by
    rw [List.map_map]
    refine compGo_map (enc := PV.int) _ rfl o fun x hx => ⟨[some (.ref 1), a1, a2, a3, some (.ref k), a5, a6, a7, some (tupI o), some (.int of_), none, some (.int x)], by simp, by simp, by simp [mulL_ hof]⟩
  have hml : ∀ x ∈ o, absI x ≤ maxL (o.map absI ++ [0]) := fun x hx => maxL_ge _ _ (List.mem_append_left _ (List.mem_map_of_mem hx))
  generalize hab : o.map absI = ab at *
  generalize maxL (ab ++ [0]) = mx at *
  have M4 := fun s => mkLst_f (s := s) (vs := [PV.int 1, .int (-1), .int 2, .int (-2)]) (by simp)
  have M2 := fun s => mkLst_f (s := s) (vs := [PV.int 1, .int (-1)]) (by simp)
  by_cases hmx : mx ≤ 4
  · obtain ⟨y, d2, hy, e2, t2, t3⟩ := pick_lst hT.toDraw0T (n := n) d1 r [.int 1, .int (-1), .int 2, .int (-2)] (by simp) (by simp) (by omega) (by omega)
    have hy' : ∃ of_ : Int, y = .int of_ ∧ -2 ≤ of_ ∧ of_ ≤ 2 := by
      simp only [List.mem_cons, List.not_mem_nil, or_false] at hy
      rcases hy with q | q | q | q <;> exact ⟨_, q, by decide, by decide⟩
    obtain ⟨of_, ey, o1, o2⟩ := hy'
    subst ey
    have hof : small64 of_ = true := decide_eq_true (by omega)
    have M5 := fun s => mkLst_f (s := s) (vs := (o.map fun x => of_ * x).map .int) (by rw [List.length_map, List.length_map]; omega)
    have TI := fun s => tuple_ints (s := s) (l := o.map fun x => of_ * x)
    have C3 := fun s => C2 s of_ hof
    refine ⟨o.map fun x => of_ * x, d2, some (tupI o), some (.int of_), ?_, by rw [List.length_map]; exact hov.1, fun z hz => ?_, by omega, by omega⟩
    · generalize (o.map fun x => of_ * x) = oo at *
      simp [-tuple_lst, -List.map_append, e1, wipe, C1, M1, M0, A, MX, hmx, M4, e2, C3, M5, TI]
    · obtain ⟨x, hx, e⟩ := List.mem_map.mp hz
      have := hml x hx
      unfold absI at this
      have hx4 : -4 ≤ x ∧ x ≤ 4 := by split at this <;> omega
      have : of_ = -2 ∨ of_ = -1 ∨ of_ = 0 ∨ of_ = 1 ∨ of_ = 2 := by omega
      rcases this with q | q | q | q | q <;> subst q <;> omega
  · obtain ⟨y, d2, hy, e2, t2, t3⟩ := pick_lst hT.toDraw0T (n := n) d1 r [.int 1, .int (-1)] (by simp) (by simp) (by omega) (by omega)
    have hy' : ∃ of_ : Int, y = .int of_ ∧ (of_ = 1 ∨ of_ = -1) := by
      simp only [List.mem_cons, List.not_mem_nil, or_false] at hy
      rcases hy with q | q <;> exact ⟨_, q, by decide⟩
    obtain ⟨of_, ey, o1⟩ := hy'
    subst ey
    have hof : small64 of_ = true := by rcases o1 with q | q <;> subst q <;> decide
    have M5 := fun s => mkLst_f (s := s) (vs := (o.map fun x => of_ * x).map .int) (by rw [List.length_map, List.length_map]; omega)
    have TI := fun s => tuple_ints (s := s) (l := o.map fun x => of_ * x)
    have C3 := fun s => C2 s of_ hof
    refine ⟨o.map fun x => of_ * x, d2, some (tupI o), some (.int of_), ?_, by rw [List.length_map]; exact hov.1, fun z hz => ?_, by omega, by omega⟩
    · generalize (o.map fun x => of_ * x) = oo at *
      simp [-tuple_lst, -List.map_append, e1, wipe, C1, M1, M0, A, MX, hmx, M2, e2, C3, M5, TI]
    · obtain ⟨x, hx, e⟩ := List.mem_map.mp hz
      have := hov.2 x hx
      rcases o1 with q | q <;> subst q <;> omega
theorem rep0 (m : Nat) : rep m [PV.int 0] = (List.replicate m (0 : Int)).map .int := by
  unfold rep
  rw [List.map_replicate]
  induction m with
  | zero => rfl
  | succ k ih => rw [List.replicate_succ, List.flatten_cons, ih, List.replicate_succ]; rfl
theorem mul_tup {xs : List PV} {k : Int} (h : -(2 ^ 63) ≤ k ∧ k < 2 ^ 63 ∧ (xs.length = 0 ∨ k ≤ 1 ∨ (k ≤ 1000 ∧ xs.length ≤ 1000))) : bop .mul (.tup xs) (.int k) s = some (.tup (rep k.toNat xs)) := by
  show (if decide (-(2 ^ 63) ≤ k ∧ k < 2 ^ 63 ∧ (xs.length = 0 ∨ k ≤ 1 ∨ (k ≤ 1000 ∧ xs.length ≤ 1000))) then some (PV.tup (rep k.toNat xs)) else none) = _
  rw [if_pos (decide_eq_true h)]
theorem mul_tup0 {m : Nat} (hm : m ≤ 9) : bop .mul (.tup [.int 0]) (.int m) s = some (tupI (List.replicate m 0)) := by
  rw [mul_tup ⟨by omega, by omega, .inr (.inr ⟨by omega, by simp⟩)⟩, Int.toNat_natCast, rep0]
  rfl
theorem app_st {d : DSt} {r : Store} {xs : List PV} {y : PV} (h : xs.length < 16777216) : M.liftS (meth .append (.ref (r.length + 2)) [y]) (encS d ++ (r ++ [.lst xs])) = .ok .non (encS d ++ (r ++ [.lst (xs ++ [y])])) := by
  have a : (encS d ++ (r ++ [SO.lst xs]))[r.length + 2]? = some (.lst xs) := st_at 0 rfl
  rw [app_ref a h]
  exact congrArg _ (st_set 0)
theorem vec_draws (hT : DrawT T) {reach : Int} (hre : 0 ≤ reach ∧ reach ≤ 9) {m : Nat} (hm : m ≤ 9) (d : DSt) (r : Store) (h0 : 0 ≤ d.turn) (h1 : d.turn + m < 2 ^ 40) {a1 a2 a4 a5 a6 a7 a8 a9 : Option PV} :
    ∃ (ys : List Int) (d' : DSt), compGo [] (fun x => evTg (run T (n + 2)) (.nm 10) x [some (.ref 1), a1, a2, some (.int reach), a4, a5, a6, a7, a8, a9, none, none]) (evIf (run T (n + 2)) .nil) (fun ρ => (evE (run T (n + 2)) (.op .sub (.call "_law_draw" (.cons (.var 0) (.cons (.op .add (.op .mul (.int 2) (.var 3)) (.int 1)) .nil))) (.var 3)) ρ).bnd fun y => M.ret [y]) ((rgN 0 m).map .int) (encS d ++ r) = .ok (ys.map .int) (encS d' ++ r) ∧ ys.length = m ∧ Bd 9 ys ∧ d.turn ≤ d'.turn ∧ d'.turn ≤ d.turn + m := by
  obtain ⟨ys, d', e, l, p, t0, t1⟩ := comp_draws (Φ := run T (n + 2)) (ρ := [some (.ref 1), a1, a2, some (.int reach), a4, a5, a6, a7, a8, a9, none, none]) (j := 10) (el := .op .sub (.call "_law_draw" (.cons (.var 0) (.cons (.op .add (.op .mul (.int 2) (.var 3)) (.int 1)) .nil))) (.var 3)) m r (fun y => -9 ≤ y ∧ y ≤ 9) (fun x s => ⟨[some (.ref 1), a1, a2, some (.int reach), a4, a5, a6, a7, a8, a9, some (.int x), none], by simp, fun d h0 h1 => by
    obtain ⟨v, d', e, v0, v1, t0, t1⟩ := draw_ok hT.toDraw0T (n := n) d r (2 * reach + 1) (by omega) (by omega) h0 h1
    have m1 := mulL_ (s := encS d ++ r) (i := 2) (j := reach) (by decide)
    exact ⟨v - reach, d', by simp [m1, e], by omega, t0, t1⟩⟩) d h0 h1 (rgN 0 m) (by rw [rgN_length]; omega)
  exact ⟨ys, d', e, l, fun x hx => p x hx, t0, t1⟩
abbrev tv3 : Ss := .cons (.iff (.and (.cmp .eq (.var 6) (.int 1)) (.cmp .eq (.call "_law_draw" (.cons (.var 0) (.cons (.int 2) .nil))) (.int 0))) (.cons (.asg (.nm 7) (.op .mul (.tup (.cons (.int 0) .nil)) (.var 2))) .nil) .nil) .nil
abbrev tvIf : S := .iff (.and (.cmp .eq (.var 6) (.int 0)) (.cmp .ne (.var 4) (.lst false .nil))) tv2 tv3
/-- perhaps another vector in its place -/
theorem tvIf_ok (hT : DrawT T) {m : Nat} (hm : m ≤ 9) (d : DSt) (r : Store) {vs : List (List Int)} (hv : Vec m vs) (hl : vs.length < 1000) {k : Nat} (hs : ∀ d : DSt, (encS d ++ r)[k]? = some (.lst (vs.map tupI))) (h0 : 0 ≤ d.turn) (h1 : d.turn + 2 < 2 ^ 40) {a1 a3 a5 a8 a9 : Option PV} {way : Int} {v0 : List Int} (hv0 : v0.length = m ∧ Bd 9 v0) :
    ∃ (v : List Int) (d' : DSt) (j8 j9 : Option PV), exS (run T (n + 3)) tvIf [some (.ref 1), a1, some (.int m), a3, some (.ref k), a5, some (.int way), some (tupI v0), a8, a9, none, none] (encS d ++ r) = .ok (.nx [some (.ref 1), a1, some (.int m), a3, some (.ref k), a5, some (.int way), some (tupI v), j8, j9, none, none]) (encS d' ++ r) ∧ v.length = m ∧ Bd 9 v ∧ d.turn ≤ d'.turn ∧ d'.turn ≤ d.turn + 2 := by
  have NN := ne_nil_ref (hs d) fun x hx => by
    obtain ⟨o, _, e⟩ := List.mem_map.mp hx
    rw [← e]
    exact Dat.tupI o
  rw [List.isEmpty_map] at NN
  have third : way ≠ 0 ∨ vs = [] → ∃ (v : List Int) (d' : DSt), exSs (run T (n + 3)) tv3 [some (.ref 1), a1, some (.int m), a3, some (.ref k), a5, some (.int way), some (tupI v0), a8, a9, none, none] (encS d ++ r) = .ok (.nx [some (.ref 1), a1, some (.int m), a3, some (.ref k), a5, some (.int way), some (tupI v), a8, a9, none, none]) (encS d' ++ r) ∧ v.length = m ∧ Bd 9 v ∧ d.turn ≤ d'.turn ∧ d'.turn ≤ d.turn + 2 := fun _ => by
    by_cases hw : way = 1
    · obtain ⟨u, d', e, u0, u1, t0, t1⟩ := draw_ok hT.toDraw0T (n := n + 1) d r 2 (by decide) (by decide) h0 (by omega)
      by_cases hu : u = 0
      · refine ⟨List.replicate m 0, d', ?_, List.length_replicate, fun x hx => ?_, t0, by omega⟩
        · simp [hw, e, hu, mul_tup0 hm]
        · rw [(List.mem_replicate.mp hx).2]; decide
      · refine ⟨v0, d', ?_, hv0.1, hv0.2, t0, by omega⟩
        simp [hw, e, hu]
    · refine ⟨v0, d, ?_, hv0.1, hv0.2, Int.le_refl _, by omega⟩
      simp [hw]
  by_cases hw : way = 0
  · by_cases hne : vs = []
    · obtain ⟨v, d', e, r1, r2, r3, r4⟩ := third (.inr hne)
      refine ⟨v, d', a8, a9, ?_, r1, r2, r3, r4⟩
      refine Eq.trans ?_ e
      subst hw
      rw [hne] at NN
      rw [exS_iff]
      simp [-exSs_cons, NN]
    · obtain ⟨v, d', j8, j9, e, r1, r2, r3, r4⟩ := tv2_ok hT (n := n) hm d r hv hne hl hs h0 h1 (a1 := a1) (a2 := some (.int m)) (a3 := a3) (a5 := a5) (a6 := some (.int way)) (a7 := some (tupI v0)) (a8 := a8) (a9 := a9)
      refine ⟨v, d', j8, j9, ?_, r1, r2, r3, r4⟩
      refine Eq.trans ?_ e
      subst hw
      rw [exS_iff]
      simp [-exSs_cons, NN, hne]
  · obtain ⟨v, d', e, r1, r2, r3, r4⟩ := third (.inl hw)
    refine ⟨v, d', a8, a9, ?_, r1, r2, r3, r4⟩
    refine Eq.trans ?_ e
    rw [exS_iff]
    simp [-exSs_cons, hw]
theorem tv1_ok (hT : DrawT T) {reach : Int} (hre : 0 ≤ reach ∧ reach ≤ 9) {m : Nat} (hm : m ≤ 9) (d : DSt) (r : Store) {vs : List (List Int)} (hv : Vec m vs) (hl : vs.length < 1000) (h0 : 0 ≤ d.turn) (h1 : d.turn + 100 < 2 ^ 40) {a1 a5 a6 a7 a8 a9 : Option PV} :
    ∃ (v : List Int) (d' : DSt) (j6 j7 j8 j9 : Option PV), exSs (run T (n + 3)) tv1 [some (.ref 1), a1, some (.int m), some (.int reach), some (.ref (r.length + 2)), a5, a6, a7, a8, a9, none, none] (encS d ++ (r ++ [.lst (vs.map tupI)])) = .ok (.nx [some (.ref 1), a1, some (.int m), some (.int reach), some (.ref (r.length + 2)), a5, j6, j7, j8, j9, none, none]) (encS d' ++ (r ++ [.lst ((vs ++ [v]).map tupI)])) ∧ v.length = m ∧ Bd 9 v ∧ d.turn ≤ d'.turn ∧ d'.turn ≤ d.turn + 20 := by
  have hs : ∀ d : DSt, (encS d ++ (r ++ [SO.lst (vs.map tupI)]))[r.length + 2]? = some (.lst (vs.map tupI)) := fun d => st_at 0 rfl
  obtain ⟨way, d1, e1, w0, w1, t0, t1⟩ := draw_ok hT.toDraw0T (n := n + 1) d (r ++ [.lst (vs.map tupI)]) 8 (by decide) (by decide) h0 (by omega)
  obtain ⟨ys, d2, e2, y1, y2, t2, t3⟩ := vec_draws hT (n := n + 1) hre hm d1 (r ++ [.lst (vs.map tupI)]) (by omega) (by omega) (a1 := a1) (a2 := some (.int m)) (a4 := some (.ref (r.length + 2))) (a5 := a5) (a6 := some (.int way)) (a7 := a7) (a8 := a8) (a9 := a9)
  obtain ⟨v, d3, j8, j9, e3, v1, v2, t4, t5⟩ := tvIf_ok hT (n := n) hm d2 (r ++ [.lst (vs.map tupI)]) hv hl hs (by omega) (by omega) (a1 := a1) (a3 := some (.int reach)) (a5 := a5) (a8 := a8) (a9 := a9) (way := way) (v0 := ys) ⟨y1, y2⟩
  refine ⟨v, d3, some (.int way), some (tupI v), j8, j9, ?_, v1, v2, by omega, by omega⟩
  have w := evIt_rng1_of (Φ := run T (n + 3)) (b := .var 2) (ρ := [some (.ref 1), a1, some (.int m), some (.int reach), some (.ref (r.length + 2)), a5, some (.int way), a7, a8, a9, none, none]) (s := encS d1 ++ (r ++ [.lst (vs.map tupI)])) (j := m) (by simp) (by omega) (by omega)
  have Mk := mkLst_f (s := encS d2 ++ (r ++ [.lst (vs.map tupI)])) (vs := ys.map .int) (by rw [List.length_map]; omega)
  have TI := tuple_ints (s := encS d2 ++ (r ++ [.lst (vs.map tupI)])) (l := ys)
  have AP := app_st (d := d3) (r := r) (xs := vs.map tupI) (y := tupI v) (by rw [List.length_map]; omega)
  have LO := lstOf_ref (hs d3)
  have eM : vs.map tupI ++ [tupI v] = (vs ++ [v]).map tupI := by simp
  rw [eM] at AP
  have z1 : exSs (run T (n + 3)) tv1 [some (.ref 1), a1, some (.int m), some (.int reach), some (.ref (r.length + 2)), a5, a6, a7, a8, a9, none, none] (encS d ++ (r ++ [.lst (vs.map tupI)])) = exSs (run T (n + 3)) (.cons tvIf (.cons (.ex (.meth .append (.var 4) (.cons (.var 7) .nil))) .nil)) [some (.ref 1), a1, some (.int m), some (.int reach), some (.ref (r.length + 2)), a5, some (.int way), some (tupI ys), a8, a9, none, none] (encS d2 ++ (r ++ [.lst (vs.map tupI)])) := by
    rw [exSs_cons, exS_asg]
    simp [-exSs_cons, e1]
    rw [exSs_cons, exS_asg]
    simp [-exSs_cons, -evIt_rng1, -tuple_lst, w, wipe, e2, Mk, TI]
  rw [z1, exSs_cons, e3, kR_nx]
  simp [-List.map_append, LO, AP]
theorem vectors_ok (hT : VecT T) {size rank : Nat} (hr : rank ≤ 9) (hs : size ≤ 9) (d : DSt) (r : Store) (h0 : 0 ≤ d.turn) (h1 : d.turn + 1000 < 2 ^ 40) :
    ∃ (vs : List (List Int)) (d' : DSt), run T (n + 4) "_law_tg_vectors" [.ref 1, .int size, .int rank] (encS d ++ r) = .ok (.tup (vs.map tupI)) (encS d' ++ r) ∧ Vec rank vs ∧ vs.length = size ∧ d.turn ≤ d'.turn ∧ d'.turn ≤ d.turn + 200 := by
  have M5 := fun s => mkLst_f (s := s) (vs := [PV.int 1, .int 1, .int 2, .int 3, .int 9]) (by simp)
  obtain ⟨y, d1, hy, e1, t0, t1⟩ := pick_lst hT.toDrawT.toDraw0T (n := n) d r [.int 1, .int 1, .int 2, .int 3, .int 9] (by simp) (by simp) h0 (by omega)
  have hy' : ∃ re : Int, y = .int re ∧ 0 ≤ re ∧ re ≤ 9 := by
    simp only [List.mem_cons, List.not_mem_nil, or_false] at hy
    rcases hy with q | q | q | q | q <;> exact ⟨_, q, by decide, by decide⟩
  obtain ⟨re, ey, o1, o2⟩ := hy'
  subst ey
  obtain ⟨ρ', s', e, d2, vs, eS, v1, v2, t2, t3, j5, j6, j7, j8, j9, eR⟩ := forGo_inv (X := Int) (enc := PV.int) (wt := []) (bind := fun x ρ => evTg (run T (n + 3)) (.nm 5) x ρ) (body := exSs (run T (n + 3)) tv1)
    (fun rr ρ s' => ∃ (d' : DSt) (vs : List (List Int)), s' = encS d' ++ (r ++ [.lst (vs.map tupI)]) ∧ Vec rank vs ∧ vs.length + rr.length = size ∧ d1.turn ≤ d'.turn ∧ d'.turn ≤ d1.turn + 20 * vs.length ∧ ∃ j5 j6 j7 j8 j9, ρ = [some (.ref 1), some (.int size), some (.int rank), some (.int re), some (.ref (r.length + 2)), j5, j6, j7, j8, j9, none, none]) (fun _ _ _ _ => rfl)
    (fun x rr ρ s' ⟨d', vs, eS, v1, v2, t2, t3, j5, j6, j7, j8, j9, eR⟩ => by
      subst eS eR
      rw [List.length_cons] at v2
      obtain ⟨v, d3, k6, k7, k8, k9, e, w1, w2, t4, t5⟩ := tv1_ok hT.toDrawT (n := n) (reach := re) ⟨o1, o2⟩ hr d' r v1 (by omega) (by omega) (by omega) (a1 := some (.int size)) (a5 := some (.int x)) (a6 := j6) (a7 := j7) (a8 := j8) (a9 := j9)
      refine ⟨[some (.ref 1), some (.int size), some (.int rank), some (.int re), some (.ref (r.length + 2)), some (.int x), j6, j7, j8, j9, none, none], encS d' ++ (r ++ [.lst (vs.map tupI)]), by simp, _, _, .inl e, d3, vs ++ [v], rfl, ?_, by rw [List.length_append]; simp; omega, by omega, ?_, _, _, _, _, _, rfl⟩
      · intro u hu
        rcases List.mem_append.mp hu with q | q
        · exact v1 u q
        · rw [List.mem_singleton.mp q]; exact ⟨w1, w2⟩
      · rw [List.length_append]; simp; omega)
    (rgN 0 size) [some (.ref 1), some (.int size), some (.int rank), some (.int re), some (.ref (r.length + 2)), none, none, none, none, none, none, none] (encS d1 ++ (r ++ [.lst []])) ⟨d1, [], rfl, (fun v hv => by cases hv), by rw [rgN_length]; simp, Int.le_refl _, by simp, none, none, none, none, none, rfl⟩
  subst eS eR
  simp only [List.length_nil, Nat.add_zero] at v2
  refine ⟨vs, d2, ?_, v1, v2, by omega, by omega⟩
  rw [run_mk hT.vectors rfl]
  have hn : (encS d1 ++ r).length = r.length + 2 := st_len
  have Mt := mkLst_t (s := encS d1 ++ r) (vs := []) (by simp)
  rw [hn, st_alloc] at Mt
  have w := evIt_rng1_of (Φ := run T (n + 3)) (b := .var 1) (ρ := [some (.ref 1), some (.int size), some (.int rank), some (.int re), some (.ref (r.length + 2)), none, none, none, none, none, none, none]) (s := encS d1 ++ (r ++ [.lst []])) (j := size) (by simp) (by omega) (by omega)
  have TU : biF .tuple [.ref (r.length + 2)] (encS d2 ++ (r ++ [.lst (vs.map tupI)])) = some (.tup (vs.map tupI)) := by
    show (seqOf _ (.ref (r.length + 2))).map PV.tup = _
    rw [seqOf_ref (xs := vs.map tupI) (st_at 0 rfl)]
    rfl
  have LK : Lk (.tup (vs.map tupI)) := Lk_tup fun x hx s n0 => by
    obtain ⟨o, _, e⟩ := List.mem_map.mp hx
    rw [← e]
    exact lock_tupI
  have F := fin_st (d := d) (d' := d2) (r := r) (ex := [.lst (vs.map tupI)]) (LK _ _)
  simp [-evIt_rng1, start, M5, e1, Mt, w, e, TU, F]
end Mini

set_option Elab.async false
set_option linter.all false
set_option maxRecDepth 100000
/-! MiniD4: drawn signs. -/
namespace Mini
open PySem (Str PyData)
variable {T : Str → Option Fn} {n : Nat} {s : Store}
structure SignsT (T : Str → Option Fn) : Prop extends VecT T, OfT T where
  tp : T "_law_tp_signs" = some f__law_tp_signs
/-- signs as a list of the store -/
def SgSt (many : Nat) (r : Store) (t0 t1 : Int) (v : PV) (s' : Store) : Prop := ∃ (d' : DSt) (ex : Store) (k : Nat) (sg : List Int), s' = encS d' ++ (r ++ ex) ∧ v = .ref (r.length + 2 + k) ∧ ex[k]? = some (.lst (sg.map .int)) ∧ SgL sg ∧ sg.length = many ∧ t0 ≤ d'.turn ∧ d'.turn ≤ t1
theorem set_ref {k : Nat} {xs : List PV} {i : Int} {v : PV} (h : s[k]? = some (.lst xs)) (h0 : 0 ≤ i) (h1 : i < xs.length) : setI (.ref k) (.int i) v s = some (s.set k (.lst (xs.set i.toNat v))) := by
  have z : L2.ixN xs.length i = some i.toNat := by
    unfold L2.ixN
    rw [if_pos h0, if_pos h1]
  show (match s[k]? with | some (.lst xs) => (match PV.int i with | .int k' => (match L2.ixN xs.length k' with | some j => some (s.set k (.lst (xs.set j v))) | none => none) | _ => none) | some (.dic t ks vs) => _ | _ => none) = _
  rw [h]
  simp only [z]
theorem sg_set {sg : List Int} {k : Nat} {v : Int} (h : SgL sg) (hv : -1 ≤ v ∧ v ≤ 1) : SgL (sg.set k v) := fun x hx => by
  rcases List.mem_or_eq_of_mem_set hx with q | q
  · exact h x q
  · rw [q]; exact hv
theorem set_st {d : DSt} {r ex : Store} {k : Nat} {sg : List Int} {i v : Int} (h : ex[k]? = some (.lst (sg.map .int))) (h0 : 0 ≤ i) (h1 : i < sg.length) : setI (.ref (r.length + 2 + k)) (.int i) (.int v) (encS d ++ (r ++ ex)) = some (encS d ++ (r ++ ex.set k (.lst ((sg.set i.toNat v).map .int)))) := by
  rw [set_ref (xs := sg.map .int) (st_at k h) h0 (by rw [List.length_map]; exact h1), st_set, List.map_set]
theorem get_set {ex : Store} {k : Nat} {o o' : SO} (h : ex[k]? = some o) : (ex.set k o')[k]? = some o' := by
  have : k < ex.length := by
    rcases Nat.lt_or_ge k ex.length with q | q
    · exact q
    · rw [List.getElem?_eq_none q] at h; cases h
  rw [List.getElem?_set_self this]
abbrev eD3 : E := .op .sub (.call "_law_draw" (.cons (.var 0) (.cons (.int 3) .nil))) (.int 1)
abbrev eD2 : E := .op .sub (.int 1) (.op .mul (.int 2) (.call "_law_draw" (.cons (.var 0) (.cons (.int 2) .nil))))
theorem eD3_ok (hT : DrawT T) (d : DSt) (r : Store) (h0 : 0 ≤ d.turn) (h1 : d.turn < 2 ^ 40) {ρ : Env} (hρ : ρ[0]?.join = some (.ref 1)) : ∃ (y : Int) (d' : DSt), evE (run T (n + 2)) eD3 ρ (encS d ++ r) = .ok (.int y) (encS d' ++ r) ∧ (-1 ≤ y ∧ y ≤ 1) ∧ d.turn ≤ d'.turn ∧ d'.turn ≤ d.turn + 1 := by
  obtain ⟨v, d', e, v0, v1, t0, t1⟩ := draw_ok hT.toDraw0T (n := n) d r 3 (by decide) (by decide) h0 h1
  refine ⟨v - 1, d', ?_, by omega, t0, t1⟩
  simp only [evE_op, evE_call, evEs_cons, evEs_nil, evE_var, evE_int, hρ, oR_some, bR_ok, e, sub_int]
theorem eD2_ok (hT : DrawT T) (d : DSt) (r : Store) (h0 : 0 ≤ d.turn) (h1 : d.turn < 2 ^ 40) {ρ : Env} (hρ : ρ[0]?.join = some (.ref 1)) : ∃ (y : Int) (d' : DSt), evE (run T (n + 2)) eD2 ρ (encS d ++ r) = .ok (.int y) (encS d' ++ r) ∧ (-1 ≤ y ∧ y ≤ 1) ∧ d.turn ≤ d'.turn ∧ d'.turn ≤ d.turn + 1 := by
  obtain ⟨v, d', e, v0, v1, t0, t1⟩ := draw_ok hT.toDraw0T (n := n) d r 2 (by decide) (by decide) h0 h1
  refine ⟨1 - 2 * v, d', ?_, by omega, t0, t1⟩
  have m := mulL_ (s := encS d' ++ r) (i := 2) (j := v) (by decide)
  simp only [evE_op, evE_call, evEs_cons, evEs_nil, evE_var, evE_int, hρ, oR_some, bR_ok, e, m, sub_int]
def tpE (size rank many way : Int) (s5 j6 j7 j8 : Option PV) : Env := [some (.ref 1), some (.int size), some (.int rank), some (.int many), some (.int way), s5, j6, j7, j8, none, none]
/-- a new list of drawn signs -/
theorem lc_signs (el : E) (hel : ∀ (d : DSt) (r : Store), 0 ≤ d.turn → d.turn < 2 ^ 40 → ∀ ρ : Env, ρ[0]?.join = some (.ref 1) → ∃ (y : Int) (d' : DSt), evE (run T n) el ρ (encS d ++ r) = .ok (.int y) (encS d' ++ r) ∧ (-1 ≤ y ∧ y ≤ 1) ∧ d.turn ≤ d'.turn ∧ d'.turn ≤ d.turn + 1)
    {size rank way : Int} {many : Nat} (hm : many ≤ 126) {s5 j6 j7 j8 : Option PV} (d : DSt) (r ex : Store) {t0 t1 : Int} (h0 : 0 ≤ d.turn) (ht0 : t0 ≤ d.turn) (ht1 : d.turn + many ≤ t1) (h1 : t1 < 2 ^ 40) :
    ∃ v s', evE (run T n) (.lc true el (.nm 9) (.rng1 (.var 3)) .nil [("lot", 9)]) (tpE size rank many way s5 j6 j7 j8) (encS d ++ (r ++ ex)) = .ok v s' ∧ SgSt many r t0 t1 v s' := by
  obtain ⟨ys, d', e, l, p, u0, u1⟩ := comp_draws (Φ := run T n) (ρ := tpE size rank many way s5 j6 j7 j8) (j := 9) (el := el) many (r ++ ex) (fun y => -1 ≤ y ∧ y ≤ 1) (fun x s => ⟨(tpE size rank many way s5 j6 j7 j8).set 9 (some (.int x)), by simp [tpE], fun d h0 h1 => hel d (r ++ ex) h0 h1 _ rfl⟩) d h0 (by omega) (rgN 0 many) (by rw [rgN_length]; omega)
  have Mt := mkLst_t (s := encS d' ++ (r ++ ex)) (vs := ys.map .int) (by rw [List.length_map]; omega)
  have hn : (encS d' ++ (r ++ ex)).length = r.length + 2 + ex.length := by rw [st_len, List.length_append]; omega
  rw [hn] at Mt
  have w := evIt_rng1_of (Φ := run T n) (b := .var 3) (ρ := tpE size rank many way s5 j6 j7 j8) (s := encS d ++ (r ++ ex)) (j := many) (by simp [tpE]) (by omega) (by omega)
  refine ⟨.ref (r.length + 2 + ex.length), _, ?_, d', ex ++ [.lst (ys.map .int)], ex.length, ys, rfl, rfl, by simp, p, l, by omega, by omega⟩
  rw [evE_lc, w, bR_ok]
  simp only [tpE] at e
  simp only [tpE, wipe, List.map_cons, List.map_nil, List.set_cons_succ, List.set_cons_zero]
  rw [e, lR_ok, Mt, List.append_assoc, List.append_assoc]
/-- a drawn place gets a sign -/
theorem set_drawn (hT : DrawT T) {many : Nat} (hm0 : 0 < many) (hm : many ≤ 126) {r : Store} {t0 t1 : Int} {v : PV} {s' : Store} (h : SgSt many r t0 t1 v s') (h0 : 0 ≤ t0) (h1 : t1 < 2 ^ 40) {ρ : Env} (hr0 : ρ[0]?.join = some (.ref 1)) (hr3 : ρ[3]?.join = some (.int many)) (hr5 : ρ[5]?.join = some v) {y : Int} (hy : -1 ≤ y ∧ y ≤ 1) :
    ∃ s'', evTg (run T (n + 2)) (.sb (.var 5) (.call "_law_draw" (.cons (.var 0) (.cons (.var 3) .nil)))) (.int y) ρ s' = .ok ρ s'' ∧ SgSt many r t0 (t1 + 1) v s'' ∧ ∃ (d' : DSt) (ex : Store) (k : Nat) (sg : List Int), s'' = encS d' ++ (r ++ ex) ∧ v = .ref (r.length + 2 + k) ∧ ex[k]? = some (.lst (sg.map .int)) ∧ SgL sg ∧ sg.length = many ∧ t0 ≤ d'.turn ∧ d'.turn ≤ t1 + 1 ∧ y ∈ sg := by
  obtain ⟨d, ex, k, sg, e1, e2, e3, e4, e5, e6, e7⟩ := h
  subst e1 e2
  obtain ⟨w, d', e, w0, w1, u0, u1⟩ := draw_ok hT.toDraw0T (n := n) d (r ++ ex) (many : Int) (by omega) (by omega) (by omega) (by omega)
  have S := set_st (d := d') (r := r) (v := y) e3 w0 (by omega)
  have key : ∃ (d'' : DSt) (ex' : Store) (k' : Nat) (sg' : List Int), encS d' ++ (r ++ ex.set k (.lst ((sg.set w.toNat y).map .int))) = encS d'' ++ (r ++ ex') ∧ PV.ref (r.length + 2 + k) = .ref (r.length + 2 + k') ∧ ex'[k']? = some (.lst (sg'.map .int)) ∧ SgL sg' ∧ sg'.length = many ∧ t0 ≤ d''.turn ∧ d''.turn ≤ t1 + 1 ∧ y ∈ sg' := by
    refine ⟨d', _, k, sg.set w.toNat y, rfl, rfl, get_set e3, sg_set e4 hy, by rw [List.length_set]; exact e5, by omega, by omega, ?_⟩
    exact List.mem_set (by omega) _
  refine ⟨encS d' ++ (r ++ ex.set k (.lst ((sg.set w.toNat y).map .int))), ?_, ?_, key⟩
  · simp only [evTg_sb, evE_var, hr5, oR_some, bR_ok, evE_call, evEs_cons, evEs_nil, hr0, hr3, e, S]
  · obtain ⟨a, b, c, g, q1, q2, q3, q4, q5, q6, q7, _⟩ := key
    exact ⟨a, b, c, g, q1, q2, q3, q4, q5, q6, q7⟩
theorem repOk_of {k : Int} {m : Nat} (h1 : -(2 ^ 63) ≤ k) (h2 : k < 2 ^ 63) (h3 : m * k.toNat ≤ 16777216) : repOk k m = true := by
  unfold repOk
  rw [decide_eq_true ⟨h1, h2⟩, szOk_of h3]
  rfl
theorem lop_mul {xs : List PV} {k : Int} (h : repOk k xs.length = true) : lopF .mul (.lst xs) (.int k) s = some (rep k.toNat xs) := by
  show ((intV (.int k)).bind fun k => (lstOf s (.lst xs)).bind fun xs => if repOk k xs.length then some (rep k.toNat xs) else none) = _
  simp only [intV_int, Option.bind_some, lstOf_lst]
  rw [if_pos h]
theorem lop_mul0 {k : Nat} (h : k ≤ 126) : lopF .mul (.lst [.int 0]) (.int k) s = some ((List.replicate k (0 : Int)).map .int) := by
  have e : (1 : Nat) * (k : Int).toNat = k := by rw [Int.toNat_natCast, Nat.one_mul]
  rw [lop_mul (repOk_of (by omega) (by omega) (by show 1 * (k : Int).toNat ≤ _; rw [e]; omega)), Int.toNat_natCast, rep0]
theorem SgSt.mono {many : Nat} {r : Store} {t0 t1 t2 : Int} {v : PV} {s' : Store} (h : SgSt many r t0 t1 v s') (ht : t1 ≤ t2) : SgSt many r t0 t2 v s' := by
  obtain ⟨d, ex, k, sg, e1, e2, e3, e4, e5, e6, e7⟩ := h
  exact ⟨d, ex, k, sg, e1, e2, e3, e4, e5, e6, by omega⟩
abbrev tpA : Ss := .cons (.asg (.nm 5) (.mop .mul (.lst false (.cons (.int 0) .nil)) (.var 3))) (.cons (.forr (.nm 6) (.rng1 (.int 2)) (.cons (.asg (.sb (.var 5) (.call "_law_draw" (.cons (.var 0) (.cons (.var 3) .nil)))) eD2) .nil)) .nil)
theorem tpA_ok (hT : DrawT T) {size rank way : Int} {many : Nat} (hm0 : 0 < many) (hm : many ≤ 126) {v j6 j7 j8 : Option PV} {d : DSt} {r ex : Store} {t0 t1 : Int} (h0 : 0 ≤ t0) (ht : t0 ≤ d.turn) (ht1 : d.turn ≤ t1) (h1 : t1 + 10 < 2 ^ 40) :
    ∃ v' s' j6', exSs (run T (n + 2)) tpA (tpE size rank many way v j6 j7 j8) (encS d ++ (r ++ ex)) = .ok (.nx (tpE size rank many way (some v') j6' j7 j8)) s' ∧ SgSt many r t0 (t1 + 10) v' s' := by
  have hn : (encS d ++ (r ++ ex)).length = r.length + 2 + ex.length := by rw [st_len, List.length_append]; omega
  have q0 : SgSt many r t0 t1 (.ref (r.length + 2 + ex.length)) (encS d ++ (r ++ (ex ++ [.lst ((List.replicate many (0 : Int)).map .int)]))) := ⟨d, ex ++ [.lst ((List.replicate many (0 : Int)).map .int)], ex.length, List.replicate many 0, rfl, rfl, by simp, fun x hx => by rw [(List.mem_replicate.mp hx).2]; decide, List.length_replicate, ht, ht1⟩
  obtain ⟨ρ', s', e, t, hl, ht', hS, j6', eR⟩ := forGo_inv (X := Int) (enc := PV.int) (wt := []) (bind := fun x ρ => evTg (run T (n + 2)) (.nm 6) x ρ) (body := exSs (run T (n + 2)) (.cons (.asg (.sb (.var 5) (.call "_law_draw" (.cons (.var 0) (.cons (.var 3) .nil)))) eD2) .nil))
    (fun rr ρ s' => ∃ t, t + 2 * (rr.length : Int) ≤ t1 + 10 ∧ t1 ≤ t ∧ SgSt many r t0 t (.ref (r.length + 2 + ex.length)) s' ∧ ∃ j6, ρ = tpE size rank many way (some (.ref (r.length + 2 + ex.length))) j6 j7 j8) (fun _ _ _ _ => rfl)
    (fun x rr ρ s' ⟨t, hl, htt, hS, j6, eR⟩ => by
      subst eR
      rw [List.length_cons] at hl
      refine ⟨tpE size rank many way (some (.ref (r.length + 2 + ex.length))) (some (.int x)) j7 j8, s', by simp [tpE], ?_⟩
      obtain ⟨d2, ex2, k, sg, e1, e2, e3, e4, e5, e6, e7⟩ := hS
      subst e1
      obtain ⟨y, d3, ey, hy, u0, u1⟩ := eD2_ok hT (n := n) d2 (r ++ ex2) (by omega) (by omega) (ρ := tpE size rank many way (some (.ref (r.length + 2 + ex.length))) (some (.int x)) j7 j8) rfl
      obtain ⟨s'', es, hS', _⟩ := set_drawn hT (n := n) hm0 hm (r := r) (t0 := t0) (t1 := t + 1) (v := .ref (r.length + 2 + ex.length)) (s' := encS d3 ++ (r ++ ex2)) ⟨d3, ex2, k, sg, rfl, e2, e3, e4, e5, by omega, by omega⟩ h0 (by omega) (ρ := tpE size rank many way (some (.ref (r.length + 2 + ex.length))) (some (.int x)) j7 j8) rfl rfl rfl hy
      refine ⟨tpE size rank many way (some (.ref (r.length + 2 + ex.length))) (some (.int x)) j7 j8, s'', .inl ?_, t + 1 + 1, by omega, by omega, hS', _, rfl⟩
      rw [exSs_cons, exS_asg, ey, sR_ok, es, tR_ok, kR_nx, exSs_nil])
    (rgN 0 2) (tpE size rank many way (some (.ref (r.length + 2 + ex.length))) j6 j7 j8) (encS d ++ (r ++ (ex ++ [.lst ((List.replicate many (0 : Int)).map .int)]))) ⟨t1, by rw [rgN_length]; simp <;> omega, Int.le_refl _, q0, j6, rfl⟩
  subst eR
  refine ⟨.ref (r.length + 2 + ex.length), s', j6', ?_, hS.mono (by simp at hl; omega)⟩
  have M0 := mkLst_f (s := encS d ++ (r ++ ex)) (vs := [PV.int 0]) (by simp)
  have LM := lop_mul0 (s := encS d ++ (r ++ ex)) hm
  have w := evIt_rng1_of (Φ := run T (n + 2)) (b := .int 2) (ρ := tpE size rank many way (some (.ref (r.length + 2 + ex.length))) j6 j7 j8) (s := encS d ++ (r ++ (ex ++ [.lst ((List.replicate many (0 : Int)).map .int)]))) (j := 2) (by simp) (by decide) (by decide)
  have z : evE (run T (n + 2)) (.mop .mul (.lst false (.cons (.int 0) .nil)) (.var 3)) (tpE size rank many way v j6 j7 j8) (encS d ++ (r ++ ex)) = .ok (.ref (r.length + 2 + ex.length)) (encS d ++ (r ++ (ex ++ [.lst ((List.replicate many (0 : Int)).map .int)]))) := by
    simp only [evE_mop, evE_lst, evEs_cons, evEs_nil, evE_int, bR_ok, M0, evE_var]
    simp only [tpE, List.getElem?_cons_succ, List.getElem?_cons_zero, Option.join_some, oR_some, bR_ok, LM, alloc_eq, hn]
    rw [List.append_assoc, List.append_assoc]
  rw [exSs_cons, exS_asg, z]
  have z2 : evTg (run T (n + 2)) (.nm 5) (.ref (r.length + 2 + ex.length)) (tpE size rank many way v j6 j7 j8) (encS d ++ (r ++ (ex ++ [.lst ((List.replicate many (0 : Int)).map .int)]))) = .ok (tpE size rank many way (some (.ref (r.length + 2 + ex.length))) j6 j7 j8) (encS d ++ (r ++ (ex ++ [.lst ((List.replicate many (0 : Int)).map .int)]))) := by simp [tpE]
  simp only [sR_ok, z2, tR_ok, kR_nx]
  rw [exSs_cons, exS_forr, w]
  simp only [sR_ok, e, kR_nx, exSs_nil]
abbrev tpB2 : Ss := .cons (.asg (.nm 8) (.call "_law_draw" (.cons (.var 0) (.cons (.var 3) .nil)))) (.cons (.asg (.sb (.var 5) (.var 8)) (.call "_law_pick" (.cons (.var 0) (.cons (.lst false (.cons (.int 0) (.cons (.neg (.sub (.var 5) (.var 8))) (.cons (.int 1) .nil)))) .nil)))) .nil)
theorem sub_ref {k : Nat} {xs : List PV} {i : Int} (h : s[k]? = some (.lst xs)) : subG (.ref k) (.int i) s = L2.atI xs i := by
  have dn : dicOf s (.ref k) = none := by
    show (match s[k]? with | some (.dic t ks vs) => some (t, ks, vs) | _ => none) = _
    rw [h]
  show (match dicOf s (.ref k) with | some (t, ks, vs) => if keyOk t (.int i) then dget ks vs (.int i) else none | none => (match seqOf s (.ref k), PV.int i with | some xs, .int j => L2.atI xs j | _, _ => none)) = _
  rw [dn, seqOf_ref h]
/-- signs[at] = pick(state, [0, -signs[at], 1]) and the like -/
theorem tpB2_ok (hT : DrawT T) {size rank way : Int} {many : Nat} (hm0 : 0 < many) (hm : many ≤ 126) {j6 j7 j8 : Option PV} {r : Store} {t0 t1 : Int} {v : PV} {s' : Store} (h : SgSt many r t0 t1 v s') (h0 : 0 ≤ t0) (h1 : t1 + 10 < 2 ^ 40) :
    ∃ s'' j8', exSs (run T (n + 3)) tpB2 (tpE size rank many way (some v) j6 j7 j8) s' = .ok (.nx (tpE size rank many way (some v) j6 j7 j8')) s'' ∧ SgSt many r t0 (t1 + 2) v s'' := by
  obtain ⟨d, ex, k, sg, e1, e2, e3, e4, e5, e6, e7⟩ := h
  subst e1 e2
  obtain ⟨a, d1, ea, a0, a1, u0, u1⟩ := draw_ok hT.toDraw0T (n := n + 1) d (r ++ ex) (many : Int) (by omega) (by omega) (by omega) (by omega)
  have hx : a.toNat < sg.length := by omega
  have SB : subG (.ref (r.length + 2 + k)) (.int a) (encS d1 ++ (r ++ ex)) = some (.int (sg[a.toNat]'hx)) := by
    rw [sub_ref (xs := sg.map .int) (st_at k e3), atI_in a0 (by rw [List.length_map]; omega)]
    simp
  have hsg := e4 _ (List.getElem_mem hx)
  generalize sg[a.toNat]'hx = x at *
  have M3 := fun s => mkLst_f (s := s) (vs := [PV.int 0, .int (-x), .int 1]) (by simp)
  obtain ⟨y, d2, hy, ep, u2, u3⟩ := pick_lst hT.toDraw0T (n := n) d1 (r ++ ex) [.int 0, .int (-x), .int 1] (by simp) (by simp) (by omega) (by omega)
  have hy' : ∃ z : Int, y = .int z ∧ -1 ≤ z ∧ z ≤ 1 := by
    simp only [List.mem_cons, List.not_mem_nil, or_false] at hy
    rcases hy with q | q | q
    · exact ⟨_, q, by decide, by decide⟩
    · exact ⟨_, q, by omega, by omega⟩
    · exact ⟨_, q, by decide, by decide⟩
  obtain ⟨z, ez, z0, z1⟩ := hy'
  subst ez
  have S := set_st (d := d2) (r := r) (v := z) e3 a0 (by omega)
  refine ⟨encS d2 ++ (r ++ ex.set k (.lst ((sg.set a.toNat z).map .int))), some (.int a), ?_, d2, _, k, sg.set a.toNat z, rfl, rfl, get_set e3, sg_set e4 ⟨z0, z1⟩, by rw [List.length_set]; exact e5, by omega, by omega⟩
  simp [tpE, ea, SB, M3, ep, S]
abbrev tpB : Ss := .cons (.asg (.nm 7) (.call "_law_tg_of" (.cons (.var 2) (.cons (.call "_law_tg_vectors" (.cons (.var 0) (.cons (.var 1) (.cons (.var 2) .nil)))) .nil)))) (.cons (.asg (.nm 5) (.ite (.cmp .isnot (.var 7) .non) (.mls (.var 7)) (.var 5))) (.cons (.iff (.cmp .gt (.var 4) (.int 3)) tpB2 .nil) .nil))
theorem tpB_ok (hT : SignsT T) {size rank : Nat} (hs : size ≤ 9) (hr : rank ≤ 9) {way : Int} (hm0 : 0 < (lotsN size rank).length) {j6 j7 j8 : Option PV} {r : Store} {t0 t1 : Int} {v : PV} {s' : Store} (h : SgSt (lotsN size rank).length r t0 t1 v s') (h0 : 0 ≤ t0) (h1 : t1 + 2000 < 2 ^ 40) :
    ∃ v' s'' j7' j8', exSs (run T (n + rank + 4)) tpB (tpE size rank (lotsN size rank).length way (some v) j6 j7 j8) s' = .ok (.nx (tpE size rank (lotsN size rank).length way (some v') j6 j7' j8')) s'' ∧ SgSt (lotsN size rank).length r t0 (t1 + 210) v' s'' := by
  have hm := lots_le (size := size) (k := rank) (by omega) (by omega) (by omega)
  obtain ⟨d, ex, k, sg, e1, e2, e3, e4, e5, e6, e7⟩ := h
  subst e1 e2
  obtain ⟨vs, d1, ev, v1, v2, u0, u1⟩ := vectors_ok hT.toVecT (n := n + rank) hr hs d (r ++ ex) (by omega) (by omega)
  obtain ⟨o, eo, ho⟩ := tg_of_ok hT.toOfT (n := n + 1) (s := encS d1 ++ (r ++ ex)) hr v1 (by omega)
  rw [show n + 1 + rank + 3 = n + rank + 4 by omega] at eo
  rw [v2] at ho
  have key : ∃ v' s'', evE (run T (n + rank + 4)) (.ite (.cmp .isnot (.var 7) .non) (.mls (.var 7)) (.var 5)) (tpE size rank (lotsN size rank).length way (some (.ref (r.length + 2 + k))) j6 (some o) j8) (encS d1 ++ (r ++ ex)) = .ok v' s'' ∧ SgSt (lotsN size rank).length r t0 (t1 + 200) v' s'' := by
    rcases ho with e | ⟨sg', e, g1, g2, g3⟩
    · subst e
      refine ⟨.ref (r.length + 2 + k), encS d1 ++ (r ++ ex), ?_, d1, ex, k, sg, rfl, rfl, e3, e4, e5, by omega, by omega⟩
      have q : ∀ s, cop .isnot .non .non s = some false := fun _ => rfl
      simp [tpE, q]
    · subst e
      have hn : (encS d1 ++ (r ++ ex)).length = r.length + 2 + ex.length := by rw [st_len, List.length_append]; omega
      refine ⟨.ref (r.length + 2 + ex.length), encS d1 ++ (r ++ (ex ++ [.lst (sg'.map .int)])), ?_, d1, ex ++ [.lst (sg'.map .int)], ex.length, sg', rfl, rfl, by simp, g1, g2, by omega, by omega⟩
      have q : ∀ s, cop .isnot (tupI sg') .non s = some true := fun _ => rfl
      have hn' : ∀ s : Store, s.length + 0 = s.length := fun _ => rfl
      simp only [evE_ite, evE_cmp, evE_var, evE_non, evE_mls]
      simp only [tpE, List.getElem?_cons_succ, List.getElem?_cons_zero, Option.join_some, oR_some, bR_ok, q, Option.map_some, truth_bl, if_true, seqOf_tupI, alloc_eq, hn]
      rw [List.append_assoc, List.append_assoc]
  obtain ⟨v', s2, e8, hS⟩ := key
  have z1 : exSs (run T (n + rank + 4)) tpB (tpE size rank (lotsN size rank).length way (some (.ref (r.length + 2 + k))) j6 j7 j8) (encS d ++ (r ++ ex)) = exSs (run T (n + rank + 4)) (.cons (.iff (.cmp .gt (.var 4) (.int 3)) tpB2 .nil) .nil) (tpE size rank (lotsN size rank).length way (some v') j6 (some o) j8) s2 := by
    rw [exSs_cons, exS_asg]
    have a1 : evE (run T (n + rank + 4)) (.call "_law_tg_of" (.cons (.var 2) (.cons (.call "_law_tg_vectors" (.cons (.var 0) (.cons (.var 1) (.cons (.var 2) .nil)))) .nil))) (tpE size rank (lotsN size rank).length way (some (.ref (r.length + 2 + k))) j6 j7 j8) (encS d ++ (r ++ ex)) = .ok o (encS d1 ++ (r ++ ex)) := by
      simp [tpE, ev, eo]
    have a2 : evTg (run T (n + rank + 4)) (.nm 7) o (tpE size rank (lotsN size rank).length way (some (.ref (r.length + 2 + k))) j6 j7 j8) (encS d1 ++ (r ++ ex)) = .ok (tpE size rank (lotsN size rank).length way (some (.ref (r.length + 2 + k))) j6 (some o) j8) (encS d1 ++ (r ++ ex)) := by simp [tpE]
    rw [a1, sR_ok, a2, tR_ok, kR_nx, exSs_cons, exS_asg, e8, sR_ok]
    have a3 : evTg (run T (n + rank + 4)) (.nm 5) v' (tpE size rank (lotsN size rank).length way (some (.ref (r.length + 2 + k))) j6 (some o) j8) s2 = .ok (tpE size rank (lotsN size rank).length way (some v') j6 (some o) j8) s2 := by simp [tpE]
    rw [a3, tR_ok, kR_nx]
  rw [z1]
  by_cases hw : 3 < way
  · obtain ⟨s3, j8', e9, hS3⟩ := tpB2_ok hT.toDrawT (n := n + rank + 1) (size := size) (rank := rank) (way := way) hm0 (by omega) hS (by omega) (by omega) (j6 := j6) (j7 := some o) (j8 := j8)
    refine ⟨v', s3, some o, j8', ?_, hS3.mono (by omega)⟩
    rw [exSs_cons, exS_iff]
    have c : bR (evE (run T (n + rank + 4)) (.cmp .gt (.var 4) (.int 3)) (tpE size rank (lotsN size rank).length way (some v') j6 (some o) j8) s2) truthM = .ok true s2 := by simp [tpE, hw]
    rw [c]
    simp only [sR_ok, if_true]
    rw [e9, kR_nx, exSs_nil]
  · refine ⟨v', s2, some o, j8, ?_, hS.mono (by omega)⟩
    rw [exSs_cons, exS_iff]
    have c : bR (evE (run T (n + rank + 4)) (.cmp .gt (.var 4) (.int 3)) (tpE size rank (lotsN size rank).length way (some v') j6 (some o) j8) s2) truthM = .ok false s2 := by simp [tpE, hw]
    rw [c]
    simp
abbrev tpIf : S := .iff (.cmp .eq (.var 4) (.int 0)) (.cons (.asg (.nm 5) (.lc true eD2 (.nm 9) (.rng1 (.var 3)) .nil [("lot", 9)])) .nil) (.cons (.iff (.cmp .eq (.var 4) (.int 1)) tpA (.cons (.iff (.cmp .gt (.var 4) (.int 2)) tpB .nil) .nil)) .nil)
theorem nx_only {r : SR} {ρ : Env} {s' : Store} {Φ : Str → List PV → M PV} (h : r = .ok (.nx ρ) s') : kR r (exSs Φ .nil) = .ok (.nx ρ) s' := by rw [h, kR_nx, exSs_nil]
theorem tpIf_ok (hT : SignsT T) {size rank : Nat} (hs : size ≤ 9) (hr : rank ≤ 9) {way : Int} (hm0 : 0 < (lotsN size rank).length) {j6 j7 j8 : Option PV} {r : Store} {t0 t1 : Int} {v : PV} {s' : Store} (h : SgSt (lotsN size rank).length r t0 t1 v s') (h0 : 0 ≤ t0) (h1 : t1 + 2000 < 2 ^ 40) :
    ∃ v' s'' j6' j7' j8', exS (run T (n + rank + 4)) tpIf (tpE size rank (lotsN size rank).length way (some v) j6 j7 j8) s' = .ok (.nx (tpE size rank (lotsN size rank).length way (some v') j6' j7' j8')) s'' ∧ SgSt (lotsN size rank).length r t0 (t1 + 210) v' s'' := by
  have hm := lots_le (size := size) (k := rank) (by omega) (by omega) (by omega)
  rw [exS_iff]
  by_cases w0 : way = 0
  · have c : bR (evE (run T (n + rank + 4)) (.cmp .eq (.var 4) (.int 0)) (tpE size rank (lotsN size rank).length way (some v) j6 j7 j8) s') truthM = .ok true s' := by simp [tpE, w0]
    rw [c]
    simp only [sR_ok, if_true]
    obtain ⟨d, ex, k, sg, e1, e2, e3, e4, e5, e6, e7⟩ := h
    subst e1 e2
    obtain ⟨v', s2, e, hS⟩ := lc_signs (n := n + rank + 4) eD2 (fun d r h0 h1 ρ hρ => eD2_ok hT.toDrawT (n := n + rank + 2) d r h0 h1 hρ) (size := size) (rank := rank) (way := way) hm d r ex (t0 := t0) (t1 := t1 + 200) (s5 := some (.ref (r.length + 2 + k))) (j6 := j6) (j7 := j7) (j8 := j8) (by omega) e6 (by omega) (by omega)
    refine ⟨v', s2, j6, j7, j8, ?_, hS.mono (by omega)⟩
    rw [exSs_cons, exS_asg, e]
    simp [tpE]
  · have c : bR (evE (run T (n + rank + 4)) (.cmp .eq (.var 4) (.int 0)) (tpE size rank (lotsN size rank).length way (some v) j6 j7 j8) s') truthM = .ok false s' := by simp [tpE, w0]
    rw [c]
    simp only [sR_ok, Bool.false_eq_true, if_false]
    rw [exSs_cons, exS_iff]
    by_cases w1 : way = 1
    · have c : bR (evE (run T (n + rank + 4)) (.cmp .eq (.var 4) (.int 1)) (tpE size rank (lotsN size rank).length way (some v) j6 j7 j8) s') truthM = .ok true s' := by simp [tpE, w1]
      rw [c]
      simp only [sR_ok, if_true]
      obtain ⟨d, ex, k, sg, e1, e2, e3, e4, e5, e6, e7⟩ := h
      subst e1
      obtain ⟨v', s2, j6', e, hS⟩ := tpA_ok hT.toDrawT (n := n + rank + 2) (size := size) (rank := rank) (way := way) hm0 hm (v := some v) (j6 := j6) (j7 := j7) (j8 := j8) (d := d) (r := r) (ex := ex) (t0 := t0) (t1 := t1) (by omega) e6 e7 (by omega)
      exact ⟨v', s2, j6', j7, j8, nx_only e, hS.mono (by omega)⟩
    · have c : bR (evE (run T (n + rank + 4)) (.cmp .eq (.var 4) (.int 1)) (tpE size rank (lotsN size rank).length way (some v) j6 j7 j8) s') truthM = .ok false s' := by simp [tpE, w1]
      rw [c]
      simp only [sR_ok, Bool.false_eq_true, if_false]
      rw [exSs_cons, exS_iff]
      by_cases w2 : 2 < way
      · have c : bR (evE (run T (n + rank + 4)) (.cmp .gt (.var 4) (.int 2)) (tpE size rank (lotsN size rank).length way (some v) j6 j7 j8) s') truthM = .ok true s' := by simp [tpE, w2]
        rw [c]
        simp only [sR_ok, if_true]
        obtain ⟨v', s2, j7', j8', e, hS⟩ := tpB_ok hT (n := n) hs hr (way := way) hm0 h h0 h1 (j6 := j6) (j7 := j7) (j8 := j8)
        exact ⟨v', s2, j6, j7', j8', nx_only (nx_only e), hS⟩
      · have c : bR (evE (run T (n + rank + 4)) (.cmp .gt (.var 4) (.int 2)) (tpE size rank (lotsN size rank).length way (some v) j6 j7 j8) s') truthM = .ok false s' := by simp [tpE, w2]
        rw [c]
        simp only [sR_ok, Bool.false_eq_true, if_false]
        exact ⟨v, s', j6, j7, j8, nx_only (nx_only exSs_nil), h.mono (by omega)⟩
abbrev tpZ : S := .iff (.cmp .eq (.lc false (.int 1) (.nm 10) (.val (.var 5)) (.cons (.cmp .ne (.var 10) (.int 0)) .nil) [("sign", 10)]) (.lst false .nil)) (.cons (.asg (.sb (.var 5) (.call "_law_draw" (.cons (.var 0) (.cons (.var 3) .nil)))) (.int 1)) .nil) .nil
theorem tpZ_ok (hT : DrawT T) {size rank way : Int} {many : Nat} (hm0 : 0 < many) (hm : many ≤ 126) {j6 j7 j8 : Option PV} {r : Store} {t0 t1 : Int} {v : PV} {s' : Store} (h : SgSt many r t0 t1 v s') (h0 : 0 ≤ t0) (h1 : t1 < 2 ^ 40) :
    ∃ s'', exS (run T (n + 2)) tpZ (tpE size rank many way (some v) j6 j7 j8) s' = .ok (.nx (tpE size rank many way (some v) j6 j7 j8)) s'' ∧ ∃ (d' : DSt) (ex : Store) (k : Nat) (sg : List Int), s'' = encS d' ++ (r ++ ex) ∧ v = .ref (r.length + 2 + k) ∧ ex[k]? = some (.lst (sg.map .int)) ∧ SgL sg ∧ sg.length = many ∧ t0 ≤ d'.turn ∧ d'.turn ≤ t1 + 1 ∧ ∃ x ∈ sg, x ≠ 0 := by
  have h' := h
  obtain ⟨d, ex, k, sg, e1, e2, e3, e4, e5, e6, e7⟩ := h
  subst e1
  have so : seqOf (encS d ++ (r ++ ex)) v = some (sg.map .int) := by rw [e2]; exact seqOf_ref (st_at k e3)
  have C := comp_ones (s := encS d ++ (r ++ ex)) (Φ := run T (n + 2)) (ρ := tpE size rank many way (some v) j6 j7 j8) (j := 10) (pstays_watch _ v) sg fun x => ⟨(tpE size rank many way (some v) j6 j7 j8).set 10 (some (.int x)), by simp [tpE], rfl⟩
  have hq := ones_nil sg
  have hlf : ((sg.filter fun x => decide (x ≠ 0)).map fun _ => (1 : Int)).length ≤ sg.length := by rw [List.length_map]; exact List.length_filter_le _ _
  generalize ((sg.filter fun x => decide (x ≠ 0)).map fun _ => (1 : Int)) = w at *
  have Mk := mkLst_f (s := encS d ++ (r ++ ex)) (vs := w.map .int) (by rw [List.length_map]; omega)
  have lc : evE (run T (n + 2)) (.lc false (.int 1) (.nm 10) (.val (.var 5)) (.cons (.cmp .ne (.var 10) (.int 0)) .nil) [("sign", 10)]) (tpE size rank many way (some v) j6 j7 j8) (encS d ++ (r ++ ex)) = .ok (.lst (w.map .int)) (encS d ++ (r ++ ex)) := by
    rw [evE_lc, evIt_val]
    simp only [tpE] at C
    simp only [tpE, evE_var, List.getElem?_cons_succ, List.getElem?_cons_zero, Option.join_some, oR_some, bR_ok, so, Option.map_some, wipe, List.map_cons, List.map_nil, List.set_cons_succ, List.set_cons_zero, C, lR_ok, Mk]
  have cnd : bR (evE (run T (n + 2)) (.cmp .eq (.lc false (.int 1) (.nm 10) (.val (.var 5)) (.cons (.cmp .ne (.var 10) (.int 0)) .nil) [("sign", 10)]) (.lst false .nil)) (tpE size rank many way (some v) j6 j7 j8) (encS d ++ (r ++ ex))) truthM = .ok (decide (w = [])) (encS d ++ (r ++ ex)) := by
    rw [evE_cmp, lc]
    simp
  rw [exS_iff, cnd]
  by_cases hw : w = []
  · simp only [hw, decide_true, sR_ok, if_true]
    obtain ⟨s'', es, _, d', ex', k', sg', q1, q2, q3, q4, q5, q6, q7, q8⟩ := set_drawn hT (n := n) hm0 hm h' h0 h1 (ρ := tpE size rank many way (some v) j6 j7 j8) rfl rfl rfl (y := 1) (by decide)
    refine ⟨s'', ?_, d', ex', k', sg', q1, q2, q3, q4, q5, q6, q7, 1, q8, by decide⟩
    rw [exSs_cons, exS_asg, evE_int, sR_ok, es, tR_ok, kR_nx, exSs_nil]
  · refine ⟨encS d ++ (r ++ ex), ?_, d, ex, k, sg, rfl, e2, e3, e4, e5, e6, by omega, ?_⟩
    · simp only [hw, decide_false, sR_ok, Bool.false_eq_true, if_false, exSs_nil]
    · have : ¬ ∀ x ∈ sg, x = 0 := fun h => hw (hq.mpr h)
      exact Classical.byContradiction fun h => this fun x hx => Classical.byContradiction fun h0 => h ⟨x, hx, h0⟩
theorem tp_signs_ok (hT : SignsT T) {size rank : Nat} (hs : size ≤ 9) (hr : rank ≤ 9) (hm0 : 0 < (lotsN size rank).length) (d : DSt) (r : Store) (h0 : 0 ≤ d.turn) (h1 : d.turn + 3000 < 2 ^ 40) :
    ∃ (sg : List Int) (d' : DSt), run T (n + rank + 5) "_law_tp_signs" [.ref 1, .int size, .int rank] (encS d ++ r) = .ok (tupI sg) (encS d' ++ r) ∧ SgL sg ∧ sg.length = (lotsN size rank).length ∧ fstN sg = 1 ∧ d.turn ≤ d'.turn ∧ d'.turn ≤ d.turn + 400 := by
  have hm := lots_le (size := size) (k := rank) (by omega) (by omega) (by omega)
  have lo := tg_lots_ok hT.toLotsT (n := n + rank + 3) (s := encS d ++ r) (size := size) (many := rank) (by omega) (by omega) (by omega) fun k hk => Nat.le_trans (lots_le (by omega) (by omega) (by omega)) (by decide)
  obtain ⟨way, d1, e1, w0, w1, u0, u1⟩ := draw_ok hT.toDrawT.toDraw0T (n := n + rank + 2) d r 6 (by decide) (by decide) h0 (by omega)
  have r0 : r = r ++ [] := (List.append_nil r).symm
  obtain ⟨v, s2, e2, hS2⟩ := lc_signs (n := n + rank + 4) eD3 (fun d r h0 h1 ρ hρ => eD3_ok hT.toDrawT (n := n + rank + 2) d r h0 h1 hρ) (size := size) (rank := rank) (way := way) hm d1 r [] (t0 := d.turn) (t1 := d1.turn + 126) (s5 := none) (j6 := none) (j7 := none) (j8 := none) (by omega) u0 (by omega) (by omega)
  rw [List.append_nil] at e2
  obtain ⟨v', s3, j6, j7, j8, e3, hS3⟩ := tpIf_ok hT (n := n) hs hr (way := way) hm0 hS2 h0 (by omega) (j6 := none) (j7 := none) (j8 := none)
  obtain ⟨s4, e4, d2, ex, k, sg, q1, q2, q3, q4, q5, q6, q7, q8⟩ := tpZ_ok hT.toDrawT (n := n + rank + 2) (size := size) (rank := rank) (way := way) hm0 hm hS3 h0 (by omega) (j6 := j6) (j7 := j7) (j8 := j8)
  subst q1 q2
  have so : seqOf (encS d2 ++ (r ++ ex)) (.ref (r.length + 2 + k)) = some (sg.map .int) := seqOf_ref (st_at k q3)
  have NM := tg_normal_ok hT.normal (n := n + rank + 3) so (by omega)
  refine ⟨normI sg, d2, ?_, normI_sg q4, by rw [normI_len]; exact q5, fstN_norm q4 (fstN_ne q8), q6, by omega⟩
  rw [run_mk hT.tp rfl]
  have F := fin_st (d := d) (d' := d2) (r := r) (ex := ex) (v := tupI (normI sg)) (v' := tupI (normI sg)) lock_tupI
  have z1 : exS (run T (n + rank + 4)) (.par [3, 4] (.cons (.bi .len (.cons (.call "_law_tg_lots" (.cons (.var 1) (.cons (.var 2) .nil))) .nil)) (.cons (.call "_law_draw" (.cons (.var 0) (.cons (.int 6) .nil))) .nil))) [some (.ref 1), some (.int size), some (.int rank), none, none, none, none, none, none, none, none] (encS d ++ r) = .ok (.nx (tpE size rank (lotsN size rank).length way none none none none)) (encS d1 ++ r) := by
    simp [lo, e1, setAll, tpE]
  simp only [start, List.map_cons, List.map_nil, List.length_cons, List.length_nil, List.cons_append, List.nil_append, Nat.zero_add, Nat.reduceAdd, Nat.reduceSub, List.reduceReplicate]
  rw [exSs_cons, z1, kR_nx, exSs_cons, exS_asg, e2, sR_ok]
  have a2 : evTg (run T (n + rank + 4)) (.nm 5) v (tpE size rank (lotsN size rank).length way none none none none) s2 = .ok (tpE size rank (lotsN size rank).length way (some v) none none none) s2 := by simp [tpE]
  rw [a2, tR_ok, kR_nx, exSs_cons, e3, kR_nx, exSs_cons, e4, kR_nx]
  have a3 : evE (run T (n + rank + 4)) (.call "_law_tg_normal" (.cons (.var 5) .nil)) (tpE size rank (lotsN size rank).length way (some (.ref (r.length + 2 + k))) j6 j7 j8) (encS d2 ++ (r ++ ex)) = .ok (tupI (normI sg)) (encS d2 ++ (r ++ ex)) := by
    simp [tpE, NM]
  rw [exSs_cons, exS_ret, a3, sR_ok, kR_rt, rR_rt, F]
end Mini

set_option Elab.async false
set_option linter.all false
set_option maxRecDepth 100000
namespace K01
open PySem (Str)
open Mini
def f__law_tg_no_row : Fn := ⟨["state", "size"], ["state", "size", "good", "some"], .cons (.asg (.nm 2) (.op .mul (.tup (.cons (.int 0) .nil)) (.bi .max2 (.cons (.int 0) (.cons (.op .sub (.var 1) (.int 1)) .nil))))) (.cons (.asg (.nm 3) (.lst false (.cons .non (.cons (.int 0) (.cons (.op .mul (.lst false (.cons (.int 0) .nil)) (.var 1)) (.cons (.op .add (.var 2) (.tup (.cons (.int 2) .nil))) (.cons (.op .add (.var 2) (.tup (.cons (.bl true) .nil))) (.cons (.op .add (.var 2) (.tup (.cons .non .nil))) (.cons (.op .add (.var 2) (.tup (.cons (.neg (.int 2)) .nil))) (.cons (.str "row") (.cons (.dnew false false) (.cons (.op .mul (.tup (.cons (.int 0) .nil)) (.op .add (.var 1) (.int 1))) (.cons (.op .add (.var 2) (.tup (.cons (.tup (.cons (.int 0) .nil)) .nil))) .nil))))))))))))) (.cons (.ret (.call "_law_pick" (.cons (.var 0) (.cons (.op .add (.var 3) (.ite (.cmp .gt (.var 1) (.int 0)) (.lst false (.cons (.var 2) .nil)) (.lst false .nil))) .nil)))) .nil)), false⟩
def f__law_tp_kind : Fn := ⟨["error"], ["error", "found"], .cons (.iff (.and (.cmp .isnot (.var 0) .non) (.or (.not (.isx (.var 0) "SignError" true ["BadRow"])) (.not (.isx (.var 0) "ValueError" true ["BadRow"])))) (.cons (.ret (.str "foreign ")) .nil) .nil) (.cons (.asg (.nm 1) (.ite (.isx (.var 0) "BadRow" false ["BadRow"]) (.str "row ") (.str ""))) (.cons (.asg (.nm 1) (.op .add (.op .add (.var 1) (.ite (.isx (.var 0) "BadSize" false ["BadRow"]) (.str "size ") (.str ""))) (.ite (.isx (.var 0) "BadRank" false ["BadRow"]) (.str "rank ") (.str "")))) (.cons (.asg (.nm 1) (.op .add (.op .add (.var 1) (.ite (.isx (.var 0) "BadSigns" false ["BadRow"]) (.str "signs ") (.str ""))) (.ite (.isx (.var 0) "NotTable" false ["BadRow"]) (.str "not ") (.str "")))) (.cons (.asg (.nm 1) (.op .add (.op .add (.var 1) (.ite (.isx (.var 0) "BadTable" false ["BadRow"]) (.str "table ") (.str ""))) (.ite (.isx (.var 0) "BadElements" false ["BadRow"]) (.str "elements ") (.str "")))) (.cons (.ret (.op .add (.op .add (.var 1) (.ite (.isx (.var 0) "BadVectors" false ["BadRow"]) (.str "vectors ") (.str ""))) (.ite (.isx (.var 0) "NotSpanning" false ["BadRow"]) (.str "span ") (.str "")))) .nil))))), false⟩
def f_law : Fn := ⟨["script"], ["script", "state", "turn", "size", "one", "other", "third", "due", "odd", "bad", "work", "sign", "at"], .cons (.asg (.nm 1) (.call "_law_begun" (.cons (.var 0) .nil))) (.cons (.forr (.nm 2) (.rng1 (.op .add (.int 6) (.bi .min2 (.cons (.bi .len (.cons (.var 0) .nil)) (.cons (.int 8) .nil))))) (.cons (.asg (.nm 3) (.call "_law_draw" (.cons (.var 1) (.cons (.int 10) .nil)))) (.cons (.asg (.tp (.cons (.nm 4) (.cons (.nm 5) (.cons (.nm 6) .nil)))) (.tup (.cons (.call "_law_tg_row" (.cons (.var 1) (.cons (.var 3) .nil))) (.cons (.call "_law_tg_row" (.cons (.var 1) (.cons (.var 3) .nil))) (.cons (.call "_law_tg_row" (.cons (.var 1) (.cons (.var 3) .nil))) .nil))))) (.cons (.asg (.nm 7) (.bi .tuple (.cons (.lc false (.neg (.var 11)) (.nm 11) (.val (.var 4)) .nil [("sign", 11)]) .nil))) (.cons (.iff (.or (.cmp .ne (.bi .repr (.cons (.lst false (.cons (.call "negative" (.cons (.var 4) .nil)) (.cons (.callk "negative" ["row"] [0] (.cons (.var 4) .nil)) .nil))) .nil)) (.bi .repr (.cons (.lst false (.cons (.var 7) (.cons (.var 7) .nil))) .nil))) (.cmp .ne (.call "negative" (.cons (.var 7) .nil)) (.var 4))) (.cons (.ret (.bl false)) .nil) .nil) (.cons (.asg (.nm 7) (.call "_law_tg_put" (.cons (.var 4) (.cons (.var 5) .nil)))) (.cons (.iff (.cmp .ne (.bi .repr (.cons (.lst false (.cons (.call "composed" (.cons (.var 4) (.cons (.var 5) .nil))) (.cons (.callk "composed" ["other", "one"] [1, 0] (.cons (.var 5) (.cons (.var 4) .nil))) .nil))) .nil)) (.bi .repr (.cons (.lst false (.cons (.var 7) (.cons (.var 7) .nil))) .nil))) (.cons (.ret (.bl false)) .nil) .nil) (.cons (.iff (.cmp .ne (.call "composed" (.cons (.call "composed" (.cons (.var 4) (.cons (.var 5) .nil))) (.cons (.var 6) .nil))) (.call "composed" (.cons (.var 4) (.cons (.call "composed" (.cons (.var 5) (.cons (.var 6) .nil))) .nil)))) (.cons (.ret (.bl false)) .nil) .nil) (.cons (.asg (.nm 7) (.bi .tuple (.cons (.lc false (.var 12) (.nm 12) (.rng1 (.var 3)) (.cons (.cmp .eq (.op .mul (.sub (.var 4) (.var 12)) (.sub (.var 5) (.var 12))) (.neg (.int 1))) .nil) [("at", 12)]) .nil))) (.cons (.iff (.cmp .ne (.bi .repr (.cons (.lst false (.cons (.call "apart" (.cons (.var 4) (.cons (.var 5) .nil))) (.cons (.callk "apart" ["other", "one"] [1, 0] (.cons (.var 4) (.cons (.var 5) .nil))) .nil))) .nil)) (.bi .repr (.cons (.lst false (.cons (.var 7) (.cons (.var 7) .nil))) .nil))) (.cons (.ret (.bl false)) .nil) .nil) (.cons (.asg (.nm 7) (.call "_law_tg_right" (.cons (.var 4) (.cons (.var 5) .nil)))) (.cons (.iff (.or (.not (.call "_law_is_truth" (.cons (.call "are_orthogonal" (.cons (.var 4) (.cons (.var 5) .nil))) (.cons (.var 7) .nil)))) (.not (.call "_law_is_truth" (.cons (.callk "are_orthogonal" ["other", "one"] [1, 0] (.cons (.var 4) (.cons (.var 5) .nil))) (.cons (.var 7) .nil))))) (.cons (.ret (.bl false)) .nil) .nil) (.cons (.iff (.not (.call "_law_is_truth" (.cons (.call "are_orthogonal" (.cons (.var 4) (.cons (.var 4) .nil))) (.cons (.cmp .eq (.var 4) (.op .mul (.tup (.cons (.int 0) .nil)) (.var 3))) .nil)))) (.cons (.ret (.bl false)) .nil) .nil) (.cons (.asg (.nm 7) (.bi .tuple (.cons (.lc false (.var 12) (.nm 12) (.rng1 (.var 3)) (.cons (.cmp .ne (.sub (.var 4) (.var 12)) (.int 0)) .nil) [("at", 12)]) .nil))) (.cons (.iff (.cmp .ne (.bi .repr (.cons (.lst false (.cons (.call "support" (.cons (.var 4) .nil)) (.cons (.callk "support" ["row"] [0] (.cons (.var 4) .nil)) .nil))) .nil)) (.bi .repr (.cons (.lst false (.cons (.var 7) (.cons (.var 7) .nil))) .nil))) (.cons (.ret (.bl false)) .nil) .nil) (.cons (.asg (.tp (.cons (.nm 8) (.cons (.nm 9) .nil))) (.tup (.cons (.call "_law_pick" (.cons (.var 1) (.cons (.lst false (.cons .non (.cons (.int 0) (.cons (.lst false (.cons (.int 0) .nil)) (.cons (.tup (.cons (.int 2) .nil)) (.cons (.tup (.cons (.bl true) .nil)) (.cons (.tup (.cons .non .nil)) (.cons (.str "row") (.cons (.dnew false false) (.cons (.op .mul (.tup (.cons (.int 0) .nil)) (.int 10)) (.cons (.tup (.cons (.tup (.cons (.int 0) .nil)) .nil)) (.cons (.tup (.cons (.neg (.int 2)) (.cons (.int 0) .nil))) .nil)))))))))))) .nil))) (.cons (.call "_law_tg_no_row" (.cons (.var 1) (.cons (.var 3) .nil))) .nil)))) (.cons (.forr (.nm 10) (.val (.lst false (.cons (.lamk 0) (.cons (.lamk 1) (.cons (.lamk 2) (.cons (.lamk 3) (.cons (.lamk 4) (.cons (.lamk 5) (.cons (.lamk 6) (.cons (.lamk 7) .nil)))))))))) (.cons (.iff (.cmp .ne (.call "_law_tp_kind" (.cons (.caught 10 ["BadRow"] (.cons (.call "negative" (.cons (.var 8) .nil)) (.cons (.call "support" (.cons (.var 8) .nil)) (.cons (.call "composed" (.cons (.var 8) (.cons .non .nil))) (.cons (.call "composed" (.cons (.var 4) (.cons (.var 9) .nil))) (.cons (.call "apart" (.cons (.var 8) (.cons .non .nil))) (.cons (.call "apart" (.cons (.var 4) (.cons (.var 9) .nil))) (.cons (.call "are_orthogonal" (.cons (.var 8) (.cons .non .nil))) (.cons (.call "are_orthogonal" (.cons (.var 4) (.cons (.var 9) .nil))) .nil))))))))) .nil)) (.str "row ")) (.cons (.ret (.bl false)) .nil) .nil) .nil)) .nil))))))))))))))))) (.cons (.ret (.bl true)) .nil)), false⟩
def tb : List (Str × Fn) := ([("is_whole", f_is_whole), ("is_number", f_is_number), ("are_signs", f_are_signs), ("is_row", f_is_row), ("need_row", f_need_row), ("need_two", f_need_two), ("negated", f_negated), ("negative", f_negative), ("put_on", f_put_on), ("composed", f_composed), ("parted", f_parted), ("apart", f_apart), ("at_right_angles", f_at_right_angles), ("are_orthogonal", f_are_orthogonal), ("borne", f_borne), ("support", f_support), ("_law_begun", f__law_begun), ("_law_blended", f__law_blended), ("_law_draw", f__law_draw), ("_law_pick", f__law_pick), ("_law_is_truth", f__law_is_truth), ("_law_tg_row", f__law_tg_row), ("_law_tg_put", f__law_tg_put), ("_law_tg_right", f__law_tg_right), ("_law_tg_no_row", f__law_tg_no_row), ("_law_tp_kind", f__law_tp_kind), ("law", f_law)] : List (Str × Fn))
abbrev T : Str → Option Fn := tabT tb
end K01

set_option Elab.async false
set_option linter.all false
set_option maxRecDepth 100000
namespace K01
open PySem (Str PyData)
open Mini
theorem checks : ChecksT T := { whole := rfl, number := rfl }
theorem rowT : RowT T := { toChecksT := checks, signs := rfl, is_row := rfl, need_row := rfl }
theorem rowsT : RowsT T := { toRowT := rowT, need_two := rfl, negated := rfl, negative := rfl, put_on := rfl, composed := rfl, parted := rfl, apart := rfl, right := rfl, orth := rfl, borne := rfl, support := rfl }
theorem drawT : Draw0T T := { begun := rfl, blended := rfl, draw := rfl, pick := rfl }
theorem tgT : TgRowT T := { toDraw0T := drawT, truth := rfl, row := rfl, put := rfl, right := rfl }
/-- the law's names -/
def lawE (scr : PV) (j2 j3 j4 j5 j6 j7 j8 j9 j10 : Option PV) : Env := [some scr, some (.ref 1), j2, j3, j4, j5, j6, j7, j8, j9, j10, none, none]
abbrev Φ := run T 20
section
variable {scr : PV} {d : DSt} {r : Store} {s : Store} {j2 j3 j4 j5 j6 j7 j8 j9 j10 : Option PV}
abbrev s1 : S := .asg (.nm 3) (.call "_law_draw" (.cons (.var 1) (.cons (.int 10) .nil)))
theorem s1_ok (h0 : 0 ≤ d.turn) (h1 : d.turn < 2 ^ 39) : ∃ (k : Nat) (d' : DSt), k ≤ 9 ∧ exS Φ s1 (lawE scr j2 j3 j4 j5 j6 j7 j8 j9 j10) (encS d ++ r) = .ok (.nx (lawE scr j2 (some (.int k)) j4 j5 j6 j7 j8 j9 j10)) (encS d' ++ r) ∧ d.turn ≤ d'.turn ∧ d'.turn ≤ d.turn + 1 := by
  obtain ⟨v, d1, e1, v0, v1, t0, t1⟩ := draw_ok drawT (n := 18) d r 10 (by decide) (by decide) h0 (by omega)
  refine ⟨v.toNat, d1, by omega, ?_, t0, t1⟩
  rw [show ((v.toNat : Nat) : Int) = v by omega]
  simp [lawE, e1]
abbrev s2 : S := .asg (.tp (.cons (.nm 4) (.cons (.nm 5) (.cons (.nm 6) .nil)))) (.tup (.cons (.call "_law_tg_row" (.cons (.var 1) (.cons (.var 3) .nil))) (.cons (.call "_law_tg_row" (.cons (.var 1) (.cons (.var 3) .nil))) (.cons (.call "_law_tg_row" (.cons (.var 1) (.cons (.var 3) .nil))) .nil))))
theorem s2_ok {k : Nat} (hk : k ≤ 9) (h0 : 0 ≤ d.turn) (h1 : d.turn < 2 ^ 38) : ∃ (a b c : List Int) (d' : DSt), (Row a ∧ Row b ∧ Row c) ∧ (a.length = k ∧ b.length = k ∧ c.length = k) ∧ exS Φ s2 (lawE scr j2 (some (.int k)) j4 j5 j6 j7 j8 j9 j10) (encS d ++ r) = .ok (.nx (lawE scr j2 (some (.int k)) (some (tupI a)) (some (tupI b)) (some (tupI c)) j7 j8 j9 j10)) (encS d' ++ r) ∧ d.turn ≤ d'.turn ∧ d'.turn ≤ d.turn + 27 := by
  obtain ⟨a, d1, e1, a1, a2, u1, v1⟩ := tg_row_ok tgT (n := 17) d r (size := k) (by omega) (by omega) (by omega) (by omega)
  obtain ⟨b, d2, e2, b1, b2, u2, v2⟩ := tg_row_ok tgT (n := 17) d1 r (size := k) (by omega) (by omega) (by omega) (by omega)
  obtain ⟨c, d3, e3, c1, c2, u3, v3⟩ := tg_row_ok tgT (n := 17) d2 r (size := k) (by omega) (by omega) (by omega) (by omega)
  refine ⟨a, b, c, d3, ⟨⟨a1, by omega⟩, ⟨b1, by omega⟩, ⟨c1, by omega⟩⟩, ⟨by omega, by omega, by omega⟩, ?_, by omega, by omega⟩
  simp [lawE, e1, e2, e3]
abbrev s3 : S := .asg (.nm 7) (.bi .tuple (.cons (.lc false (.neg (.var 11)) (.nm 11) (.val (.var 4)) .nil [("sign", 11)]) .nil))
theorem s3_ok {a : List Int} (ha : Row a) : exS Φ s3 (lawE scr j2 j3 (some (tupI a)) j5 j6 j7 j8 j9 j10) s = .ok (.nx (lawE scr j2 j3 (some (tupI a)) j5 j6 (some (tupI (negL a))) j8 j9 j10)) s := by
  have C := compGo_map (X := Int) (enc := PV.int) (wt := []) (s := s) (bind := fun x => evTg Φ (.nm 11) x (lawE scr j2 j3 (some (tupI a)) j5 j6 j7 j8 j9 j10)) (test := evIf Φ .nil) (el := fun ρ => (evE Φ (.neg (.var 11)) ρ).bnd fun y => M.ret [y])
    (fun x => .int (-x)) rfl a fun x hx => ⟨[some scr, some (.ref 1), j2, j3, some (tupI a), j5, j6, j7, j8, j9, j10, some (.int x), none], by simp [lawE], by simp, by simp⟩
  have e : (a.map fun x => PV.int (-x)) = (negL a).map .int := by unfold negL; rw [List.map_map]; rfl
  rw [e] at C
  have M := mkLst_f (s := s) (vs := (negL a).map .int) (by have := ha.len; unfold negL; simp; omega)
  have TI := tuple_ints (s := s) (l := negL a)
  generalize negL a = q at *
  simp only [lawE] at C
  simp [-tuple_lst, lawE, wipe, C, M, TI]
theorem sgl_small {l : List Int} (h : SgL l) : ∀ x ∈ l, -10 < x ∧ x < 10 := fun x hx => by have := h x hx; omega
theorem perm1 {x : PV} : permV [0] [x] = [x] := rfl
theorem perm2 {x y : PV} : permV [1, 0] [x, y] = [y, x] := rfl
theorem Row.neg {a : List Int} (h : Row a) : Row (negL a) := ⟨h.sg.neg, by rw [negL_len]; exact h.len⟩
theorem Row.put {a b : List Int} (h : Row a) (h2 : Row b) (hl : a.length = b.length) : Row (putL a b) := ⟨h.sg.put h2.sg, by rw [putL_len hl]; exact h.len⟩
abbrev s4 : S := .iff (.or (.cmp .ne (.bi .repr (.cons (.lst false (.cons (.call "negative" (.cons (.var 4) .nil)) (.cons (.callk "negative" ["row"] [0] (.cons (.var 4) .nil)) .nil))) .nil)) (.bi .repr (.cons (.lst false (.cons (.var 7) (.cons (.var 7) .nil))) .nil))) (.cmp .ne (.call "negative" (.cons (.var 7) .nil)) (.var 4))) (.cons (.ret (.bl false)) .nil) .nil
theorem s4_ok {a : List Int} (ha : Row a) : exS Φ s4 (lawE scr j2 j3 (some (tupI a)) j5 j6 (some (tupI (negL a))) j8 j9 j10) s = .ok (.nx (lawE scr j2 j3 (some (tupI a)) j5 j6 (some (tupI (negL a))) j8 j9 j10)) s := by
  have hn := Row.neg ha
  have N1 := negative_ok rowsT (n := 14) (s := s) ha
  have N2 := negative_ok rowsT (n := 14) (s := s) hn
  rw [negL_neg] at N2
  obtain ⟨t, RP, OK⟩ := repr_two (sgl_small hn.sg) (by have := hn.len; omega)
  have M2 := mkLst_f (s := s) (vs := [tupI (negL a), tupI (negL a)]) (by simp)
  have NE := ne_str_same (s := s) OK
  generalize negL a = q at *
  simp [lawE, N1, N2, RP, M2, NE, perm1]
abbrev s5 : S := .asg (.nm 7) (.call "_law_tg_put" (.cons (.var 4) (.cons (.var 5) .nil)))
theorem s5_ok {a b : List Int} (ha : Row a) : exS Φ s5 (lawE scr j2 j3 (some (tupI a)) (some (tupI b)) j6 j7 j8 j9 j10) s = .ok (.nx (lawE scr j2 j3 (some (tupI a)) (some (tupI b)) j6 (some (tupI (putL a b))) j8 j9 j10)) s := by
  have P := tg_put_ok tgT (n := 19) (s := s) (a := a) (b := b) (by have := ha.len; omega)
  simp [lawE, P]
abbrev s6 : S := .iff (.cmp .ne (.bi .repr (.cons (.lst false (.cons (.call "composed" (.cons (.var 4) (.cons (.var 5) .nil))) (.cons (.callk "composed" ["other", "one"] [1, 0] (.cons (.var 5) (.cons (.var 4) .nil))) .nil))) .nil)) (.bi .repr (.cons (.lst false (.cons (.var 7) (.cons (.var 7) .nil))) .nil))) (.cons (.ret (.bl false)) .nil) .nil
theorem s6_ok {a b : List Int} (ha : Row a) (hb : Row b) (hl : a.length = b.length) : exS Φ s6 (lawE scr j2 j3 (some (tupI a)) (some (tupI b)) j6 (some (tupI (putL a b))) j8 j9 j10) s = .ok (.nx (lawE scr j2 j3 (some (tupI a)) (some (tupI b)) j6 (some (tupI (putL a b))) j8 j9 j10)) s := by
  have N1 := composed_ok rowsT (n := 13) (s := s) ha hb hl
  have hp := Row.put ha hb hl
  obtain ⟨t, RP, OK⟩ := repr_two (sgl_small hp.sg) (by have := hp.len; omega)
  have M2 := mkLst_f (s := s) (vs := [tupI (putL a b), tupI (putL a b)]) (by simp)
  have NE := ne_str_same (s := s) OK
  generalize putL a b = q at *
  simp [lawE, N1, RP, M2, NE, perm2]
abbrev s7 : S := .iff (.cmp .ne (.call "composed" (.cons (.call "composed" (.cons (.var 4) (.cons (.var 5) .nil))) (.cons (.var 6) .nil))) (.call "composed" (.cons (.var 4) (.cons (.call "composed" (.cons (.var 5) (.cons (.var 6) .nil))) .nil)))) (.cons (.ret (.bl false)) .nil) .nil
theorem s7_ok {a b c : List Int} (ha : Row a) (hb : Row b) (hc : Row c) (hl : a.length = b.length) (hl2 : b.length = c.length) : exS Φ s7 (lawE scr j2 j3 (some (tupI a)) (some (tupI b)) (some (tupI c)) j7 j8 j9 j10) s = .ok (.nx (lawE scr j2 j3 (some (tupI a)) (some (tupI b)) (some (tupI c)) j7 j8 j9 j10)) s := by
  have N1 := composed_ok rowsT (n := 13) (s := s) ha hb hl
  have N2 := composed_ok rowsT (n := 13) (s := s) (Row.put ha hb hl) hc (by rw [putL_len hl]; omega)
  have N3 := composed_ok rowsT (n := 13) (s := s) hb hc hl2
  have N4 := composed_ok rowsT (n := 13) (s := s) ha (Row.put hb hc hl2) (by rw [putL_len hl2]; omega)
  rw [← putL_assoc hl hl2] at N4
  generalize putL (putL a b) c = q at *
  simp [lawE, N1, N2, N3, N4]
abbrev s8 : S := .asg (.nm 7) (.bi .tuple (.cons (.lc false (.var 12) (.nm 12) (.rng1 (.var 3)) (.cons (.cmp .eq (.op .mul (.sub (.var 4) (.var 12)) (.sub (.var 5) (.var 12))) (.neg (.int 1))) .nil) [("at", 12)]) .nil))
theorem atL_sg {a : List Int} (ha : SgL a) {i : Int} (h0 : 0 ≤ i) (h1 : i < a.length) : -1 ≤ atL a i ∧ atL a i ≤ 1 := by
  refine ha _ ?_
  unfold atL
  rw [List.getD_eq_getElem?_getD, List.getElem?_eq_getElem (by omega)]
  exact List.getElem_mem _
theorem s8_ok {k : Nat} {a b : List Int} (ha : Row a) (hk : a.length = k) (hl : a.length = b.length) : exS Φ s8 (lawE scr j2 (some (.int k)) (some (tupI a)) (some (tupI b)) j6 j7 j8 j9 j10) s = .ok (.nx (lawE scr j2 (some (.int k)) (some (tupI a)) (some (tupI b)) j6 (some (tupI (apL a b))) j8 j9 j10)) s := by
  have C := compGo_filter (X := Int) (enc := PV.int) (wt := []) (s := s) (bind := fun x => evTg Φ (.nm 12) x (lawE scr j2 (some (.int k)) (some (tupI a)) (some (tupI b)) j6 j7 j8 j9 j10))
    (test := evIf Φ (.cons (.cmp .eq (.op .mul (.sub (.var 4) (.var 12)) (.sub (.var 5) (.var 12))) (.neg (.int 1))) .nil)) (el := fun ρ => (evE Φ (.var 12) ρ).bnd fun y => M.ret [y])
    (fun i => decide (atL a i * atL b i = -1)) (fun i => .int i) rfl (rgN 0 a.length) fun i hi => by
      have hi := mem_rgN.mp hi
      have S1 := atL_sub (s := s) (a := a) (i := i) hi.1 hi.2
      have S2 := atL_sub (s := s) (a := b) (i := i) hi.1 (by omega)
      have h64 : small64 (atL a i) = true := by have := atL_sg ha.sg hi.1 hi.2; exact decide_eq_true (by omega)
      have ML := mulL_ (s := s) (i := atL a i) (j := atL b i) h64
      exact ⟨[some scr, some (.ref 1), j2, some (.int k), some (tupI a), some (tupI b), j6, j7, j8, j9, j10, none, some (.int i)], by simp [lawE], by simp [S1, S2, ML], fun _ => by simp⟩
  have e : ((rgN 0 a.length).filter fun i => decide (atL a i * atL b i = -1)).map PV.int = (apL a b).map .int := rfl
  rw [e] at C
  have M := mkLst_f (s := s) (vs := (apL a b).map .int) (by
    have := List.length_filter_le (fun i => decide (atL a i * atL b i = -1)) (rgN 0 a.length)
    unfold apL
    rw [rgN_length] at this
    rw [List.length_map]
    have := ha.len
    omega)
  have TI := tuple_ints (s := s) (l := apL a b)
  have it := evIt_rng1_of (Φ := Φ) (b := .var 3) (ρ := lawE scr j2 (some (.int k)) (some (tupI a)) (some (tupI b)) j6 j7 j8 j9 j10) (s := s) (j := (k : Int)) (by simp [lawE]) (by omega) (by have := ha.len; omega)
  rw [hk] at C
  generalize apL a b = q at *
  simp only [lawE] at C it
  simp [-tuple_lst, -evIt_rng1, lawE, it, wipe, C, M, TI]
theorem ap_small {a b : List Int} (ha : Row a) : (∀ x ∈ apL a b, -10 < x ∧ x < 10) ∧ (apL a b).length ≤ 20 := by
  have hl := ha.len
  refine ⟨fun x hx => ?_, ?_⟩
  · have := mem_rgN.mp (List.mem_filter.mp hx).1
    omega
  · have := List.length_filter_le (fun i => decide (atL a i * atL b i = -1)) (rgN 0 a.length)
    rw [rgN_length] at this
    unfold apL
    omega
theorem su_small {a : List Int} (ha : Row a) : (∀ x ∈ suL a, -10 < x ∧ x < 10) ∧ (suL a).length ≤ 20 := by
  have hl := ha.len
  refine ⟨fun x hx => ?_, ?_⟩
  · have := mem_rgN.mp (List.mem_filter.mp hx).1
    omega
  · have := List.length_filter_le (fun i => decide (atL a i ≠ 0)) (rgN 0 a.length)
    rw [rgN_length] at this
    unfold suL
    omega
abbrev s9 : S := .iff (.cmp .ne (.bi .repr (.cons (.lst false (.cons (.call "apart" (.cons (.var 4) (.cons (.var 5) .nil))) (.cons (.callk "apart" ["other", "one"] [1, 0] (.cons (.var 4) (.cons (.var 5) .nil))) .nil))) .nil)) (.bi .repr (.cons (.lst false (.cons (.var 7) (.cons (.var 7) .nil))) .nil))) (.cons (.ret (.bl false)) .nil) .nil
theorem s9_ok {a b : List Int} (ha : Row a) (hb : Row b) (hl : a.length = b.length) : exS Φ s9 (lawE scr j2 j3 (some (tupI a)) (some (tupI b)) j6 (some (tupI (apL a b))) j8 j9 j10) s = .ok (.nx (lawE scr j2 j3 (some (tupI a)) (some (tupI b)) j6 (some (tupI (apL a b))) j8 j9 j10)) s := by
  have N1 := apart_ok rowsT (n := 13) (s := s) ha hb hl
  have N2 := apart_ok rowsT (n := 13) (s := s) hb ha hl.symm
  rw [apL_comm hl] at N2
  obtain ⟨t, RP, OK⟩ := repr_two (ap_small (b := b) ha).1 (ap_small (b := b) ha).2
  have M2 := mkLst_f (s := s) (vs := [tupI (apL a b), tupI (apL a b)]) (by simp)
  have NE := ne_str_same (s := s) OK
  generalize apL a b = q at *
  simp [lawE, N1, N2, RP, M2, NE, perm2]
abbrev s10 : S := .asg (.nm 7) (.call "_law_tg_right" (.cons (.var 4) (.cons (.var 5) .nil)))
theorem s10_ok {a b : List Int} (ha : Row a) : exS Φ s10 (lawE scr j2 j3 (some (tupI a)) (some (tupI b)) j6 j7 j8 j9 j10) s = .ok (.nx (lawE scr j2 j3 (some (tupI a)) (some (tupI b)) j6 (some (.bl (orL a b))) j8 j9 j10)) s := by
  have N1 := tg_right_ok tgT (n := 19) (s := s) (b := b) ha
  simp [lawE, N1]
abbrev s11 : S := .iff (.or (.not (.call "_law_is_truth" (.cons (.call "are_orthogonal" (.cons (.var 4) (.cons (.var 5) .nil))) (.cons (.var 7) .nil)))) (.not (.call "_law_is_truth" (.cons (.callk "are_orthogonal" ["other", "one"] [1, 0] (.cons (.var 4) (.cons (.var 5) .nil))) (.cons (.var 7) .nil))))) (.cons (.ret (.bl false)) .nil) .nil
theorem s11_ok {a b : List Int} (ha : Row a) (hb : Row b) (hl : a.length = b.length) : exS Φ s11 (lawE scr j2 j3 (some (tupI a)) (some (tupI b)) j6 (some (.bl (orL a b))) j8 j9 j10) s = .ok (.nx (lawE scr j2 j3 (some (tupI a)) (some (tupI b)) j6 (some (.bl (orL a b))) j8 j9 j10)) s := by
  have N1 := orth_ok rowsT (n := 13) (s := s) ha hb hl
  have N2 := orth_ok rowsT (n := 13) (s := s) hb ha hl.symm
  rw [orL_comm] at N2
  have N3 := truth_ok tgT (n := 19) (s := s) (x := orL a b) (y := orL a b)
  generalize orL a b = q at *
  simp [lawE, N1, N2, N3, perm2]
theorem rep_zero (k : Nat) : rep k [PV.int 0] = (List.replicate k (0 : Int)).map .int := by
  unfold rep
  induction k with
  | zero => rfl
  | succ k ih => rw [List.replicate_succ, List.flatten_cons, ih, List.replicate_succ, List.map_cons]; rfl
theorem zeros {k : Int} (h0 : 0 ≤ k) (h1 : k ≤ 1000) : bop .mul (.tup [.int 0]) (.int k) s = some (tupI (List.replicate k.toNat 0)) := by
  rw [mul_tup ⟨by omega, by omega, .inr (.inr ⟨h1, by simp⟩)⟩, rep_zero]
  rfl
abbrev s12 : S := .iff (.not (.call "_law_is_truth" (.cons (.call "are_orthogonal" (.cons (.var 4) (.cons (.var 4) .nil))) (.cons (.cmp .eq (.var 4) (.op .mul (.tup (.cons (.int 0) .nil)) (.var 3))) .nil)))) (.cons (.ret (.bl false)) .nil) .nil
theorem s12_ok {k : Nat} {a : List Int} (ha : Row a) (hk : a.length = k) : exS Φ s12 (lawE scr j2 (some (.int k)) (some (tupI a)) j5 j6 j7 j8 j9 j10) s = .ok (.nx (lawE scr j2 (some (.int k)) (some (tupI a)) j5 j6 j7 j8 j9 j10)) s := by
  have N1 := orth_ok rowsT (n := 13) (s := s) ha ha rfl
  have hl := ha.len
  have Z := zeros (s := s) (k := (k : Int)) (by omega) (by omega)
  rw [Int.toNat_natCast] at Z
  have O := orL_self ha.sg
  rw [hk] at O
  have N3 := truth_ok tgT (n := 19) (s := s) (x := orL a a) (y := decide (a = List.replicate k 0))
  rw [O] at N1 N3
  generalize hq : List.replicate k (0 : Int) = q at *
  simp [lawE, N1, Z]
  simp [N3]
abbrev s13 : S := .asg (.nm 7) (.bi .tuple (.cons (.lc false (.var 12) (.nm 12) (.rng1 (.var 3)) (.cons (.cmp .ne (.sub (.var 4) (.var 12)) (.int 0)) .nil) [("at", 12)]) .nil))
theorem s13_ok {k : Nat} {a : List Int} (ha : Row a) (hk : a.length = k) : exS Φ s13 (lawE scr j2 (some (.int k)) (some (tupI a)) j5 j6 j7 j8 j9 j10) s = .ok (.nx (lawE scr j2 (some (.int k)) (some (tupI a)) j5 j6 (some (tupI (suL a))) j8 j9 j10)) s := by
  have C := compGo_filter (X := Int) (enc := PV.int) (wt := []) (s := s) (bind := fun x => evTg Φ (.nm 12) x (lawE scr j2 (some (.int k)) (some (tupI a)) j5 j6 j7 j8 j9 j10))
    (test := evIf Φ (.cons (.cmp .ne (.sub (.var 4) (.var 12)) (.int 0)) .nil)) (el := fun ρ => (evE Φ (.var 12) ρ).bnd fun y => M.ret [y])
    (fun i => decide (atL a i ≠ 0)) (fun i => .int i) rfl (rgN 0 a.length) fun i hi => by
      have hi := mem_rgN.mp hi
      have S1 := atL_sub (s := s) (a := a) (i := i) hi.1 hi.2
      exact ⟨[some scr, some (.ref 1), j2, some (.int k), some (tupI a), j5, j6, j7, j8, j9, j10, none, some (.int i)], by simp [lawE], by simp [S1], fun _ => by simp⟩
  have e : ((rgN 0 a.length).filter fun i => decide (atL a i ≠ 0)).map PV.int = (suL a).map .int := rfl
  rw [e] at C
  have M := mkLst_f (s := s) (vs := (suL a).map .int) (by
    have := List.length_filter_le (fun i => decide (atL a i ≠ 0)) (rgN 0 a.length)
    unfold suL
    rw [rgN_length] at this
    rw [List.length_map]
    have := ha.len
    omega)
  have TI := tuple_ints (s := s) (l := suL a)
  have it := evIt_rng1_of (Φ := Φ) (b := .var 3) (ρ := lawE scr j2 (some (.int k)) (some (tupI a)) j5 j6 j7 j8 j9 j10) (s := s) (j := (k : Int)) (by simp [lawE]) (by omega) (by have := ha.len; omega)
  rw [hk] at C
  generalize suL a = q at *
  simp only [lawE] at C it
  simp [-tuple_lst, -evIt_rng1, lawE, it, wipe, C, M, TI]
abbrev s14 : S := .iff (.cmp .ne (.bi .repr (.cons (.lst false (.cons (.call "support" (.cons (.var 4) .nil)) (.cons (.callk "support" ["row"] [0] (.cons (.var 4) .nil)) .nil))) .nil)) (.bi .repr (.cons (.lst false (.cons (.var 7) (.cons (.var 7) .nil))) .nil))) (.cons (.ret (.bl false)) .nil) .nil
theorem s14_ok {a : List Int} (ha : Row a) : exS Φ s14 (lawE scr j2 j3 (some (tupI a)) j5 j6 (some (tupI (suL a))) j8 j9 j10) s = .ok (.nx (lawE scr j2 j3 (some (tupI a)) j5 j6 (some (tupI (suL a))) j8 j9 j10)) s := by
  have N1 := support_ok rowsT (n := 14) (s := s) ha
  obtain ⟨t, RP, OK⟩ := repr_two (su_small ha).1 (su_small ha).2
  have M2 := mkLst_f (s := s) (vs := [tupI (suL a), tupI (suL a)]) (by simp)
  have NE := ne_str_same (s := s) OK
  generalize suL a = q at *
  simp [lawE, N1, RP, M2, NE, perm1]
def odds : List PV := [.non, .int 0, .lst [.int 0], .tup [.int 2], .tup [.bl true], .tup [.non], .str "row", .dic false [] [], tupI (List.replicate 10 0), .tup [.tup [.int 0]], .tup [.int (-2), .int 0]]
theorem odds_ok {v : PV} (h : v ∈ odds) : AnyV v ∧ rowV v = false := by
  unfold odds at h
  simp only [List.mem_cons, List.not_mem_nil, or_false] at h
  rcases h with e | e | e | e | e | e | e | e | e | e | e <;> subst e
  · exact ⟨.no _ fun _ => rfl, rfl⟩
  · exact ⟨.no _ fun _ => rfl, rfl⟩
  · exact ⟨.no _ fun _ => rfl, rfl⟩
  · exact ⟨.tup _ (fun x hx => by rw [List.mem_singleton.mp hx]; exact .int _ (by unfold big; omega) (by unfold big; omega)) (by simp), by decide +kernel⟩
  · exact ⟨.tup _ (fun x hx => by rw [List.mem_singleton.mp hx]; exact .bl _) (by simp), by decide +kernel⟩
  · exact ⟨.tup _ (fun x hx => by rw [List.mem_singleton.mp hx]; exact .non) (by simp), by decide +kernel⟩
  · exact ⟨.no _ fun _ => rfl, rfl⟩
  · exact ⟨.no _ fun _ => rfl, rfl⟩
  · exact ⟨.tup _ (fun x hx => by
      obtain ⟨i, hi, e⟩ := List.mem_map.mp hx
      have := List.eq_of_mem_replicate hi
      subst this; subst e
      exact .int _ (by unfold big; omega) (by unfold big; omega)) (by simp), by decide +kernel⟩
  · exact ⟨.tup _ (fun x hx => by rw [List.mem_singleton.mp hx]; exact .tup _) (by simp), by decide +kernel⟩
  · exact ⟨.tup _ (fun x hx => by
      simp only [List.mem_cons, List.not_mem_nil, or_false] at hx
      rcases hx with e | e <;> subst e <;> exact .int _ (by unfold big; omega) (by unfold big; omega)) (by simp), by decide +kernel⟩
/-- the zeros of a row that is too short -/
def gd (k : Nat) : List PV := (List.replicate (k - 1) (0 : Int)).map .int
def bads (k : Nat) : List PV := [.non, .int 0, .lst (rep k [PV.int 0]), .tup (gd k ++ [.int 2]), .tup (gd k ++ [.bl true]), .tup (gd k ++ [.non]), .tup (gd k ++ [.int (-2)]), .str "row", .dic false [] [], tupI (List.replicate (k + 1) 0), .tup (gd k ++ [.tup [.int 0]])]
theorem gd_smp {k : Nat} : ∀ x ∈ gd k, Smp x := fun x hx => by
  obtain ⟨i, hi, e⟩ := List.mem_map.mp hx
  have := List.eq_of_mem_replicate hi
  subst this; subst e
  exact .int _ (by unfold big; omega) (by unfold big; omega)
theorem gd_len (k : Nat) : (gd k).length = k - 1 := by unfold gd; simp
theorem bad_tail {k : Nat} (hk : k ≤ 9) {y : PV} (hy : Smp y) (ho : okI y = false) : AnyV (.tup (gd k ++ [y])) ∧ sgV (.tup (gd k ++ [y])) k = false := by
  refine ⟨.tup _ (fun x hx => ?_) (by rw [List.length_append, gd_len]; simp; omega), ?_⟩
  · rcases List.mem_append.mp hx with h | h
    · exact gd_smp x h
    · rw [List.mem_singleton.mp h]; exact hy
  · show (_ && (gd k ++ [y]).all okI) = false
    rw [List.all_append]
    simp [ho]
theorem bads_ok {k : Nat} (hk : k ≤ 9) {v : PV} (h : v ∈ bads k ∨ (0 < k ∧ v = .tup (gd k))) : AnyV v ∧ sgV v k = false := by
  rcases h with h | ⟨h0, h⟩
  · unfold bads at h
    simp only [List.mem_cons, List.not_mem_nil, or_false] at h
    rcases h with e | e | e | e | e | e | e | e | e | e | e <;> subst e
    · exact ⟨.no _ fun _ => rfl, rfl⟩
    · exact ⟨.no _ fun _ => rfl, rfl⟩
    · exact ⟨.no _ fun _ => rfl, rfl⟩
    · exact bad_tail hk (.int _ (by unfold big; omega) (by unfold big; omega)) (by decide)
    · exact bad_tail hk (.bl _) rfl
    · exact bad_tail hk .non rfl
    · exact bad_tail hk (.int _ (by unfold big; omega) (by unfold big; omega)) (by decide)
    · exact ⟨.no _ fun _ => rfl, rfl⟩
    · exact ⟨.no _ fun _ => rfl, rfl⟩
    · refine ⟨.tup _ (fun x hx => by
        obtain ⟨i, hi, e⟩ := List.mem_map.mp hx
        have := List.eq_of_mem_replicate hi
        subst this; subst e
        exact .int _ (by unfold big; omega) (by unfold big; omega)) (by simp; omega), ?_⟩
      show (decide (((List.replicate (k + 1) (0 : Int)).map PV.int).length = (k : Int)) && _) = false
      rw [List.length_map, List.length_replicate, decide_eq_false (by omega)]
      rfl
    · exact bad_tail hk (.tup _) rfl
  · subst h
    refine ⟨.tup _ gd_smp (by rw [gd_len]; omega), ?_⟩
    show (decide (((gd k).length : Int) = (k : Int)) && _) = false
    rw [gd_len, decide_eq_false (by omega)]
    rfl
theorem add_tup1 {xs : List PV} {y : PV} (h : xs.length + 1 ≤ 16777216) : bop .add (.tup xs) (.tup [y]) s = some (.tup (xs ++ [y])) := by
  show (if szOk (xs.length + 1) then some (PV.tup (xs ++ [y])) else none) = _
  rw [if_pos (szOk_of h)]
theorem mul_lst0 {k : Nat} (h : k ≤ 1000) : bop .mul (.lst [.int 0]) (.int k) s = some (.lst (rep k [PV.int 0])) := by
  show (if repOk (k : Int) 1 then some (PV.lst (rep (k : Int).toNat [PV.int 0])) else none) = _
  rw [if_pos (repOk_of (by omega) (by omega) (by omega))]
  rfl
theorem zeros_g {k : Nat} (hk : k ≤ 9) : bop .mul (.tup [.int 0]) (.int (if (0 : Int) < (k : Int) - 1 then (k : Int) - 1 else 0)) s = some (.tup (gd k)) := by
  rw [zeros (by split <;> omega) (by split <;> omega)]
  have : (if (0 : Int) < (k : Int) - 1 then (k : Int) - 1 else 0).toNat = k - 1 := by split <;> omega
  rw [this]
  rfl
theorem mkDic0 : mkDic false false ([], []) s = .ok (.dic false [] []) s := rfl
theorem no_row_ok {k : Nat} (hk : k ≤ 9) (h0 : 0 ≤ d.turn) (h1 : d.turn < 2 ^ 39) : ∃ (v : PV) (d' : DSt), run T 20 "_law_tg_no_row" [.ref 1, .int k] (encS d ++ r) = .ok v (encS d' ++ r) ∧ (AnyV v ∧ sgV v k = false) ∧ d.turn ≤ d'.turn ∧ d'.turn ≤ d.turn + 1 := by
  rw [run_mk (show T "_law_tg_no_row" = some f__law_tg_no_row from rfl) rfl]
  obtain ⟨v, d', hv, e, t0, t1⟩ := pick_lst drawT (n := 16) d r (bads k ++ if 0 < k then [.tup (gd k)] else []) (by unfold bads; simp) (by unfold bads; split <;> simp) h0 (by omega)
  refine ⟨v, d', ?_, bads_ok hk ?_, t0, t1⟩
  · have mx0 : ∀ i j : Int, ∀ s, biF .max2 [.int i, .int j] s = some (.int (if j > i then j else i)) := fun _ _ _ => rfl
    have mx := mx0 0 ((k : Int) - 1) (encS d ++ r)
    clear mx0
    have g1 := gd_len k
    have Z := zeros_g (s := encS d ++ r) hk
    simp only [gt_iff_lt] at mx
    generalize (if (0 : Int) < (k : Int) - 1 then (k : Int) - 1 else 0) = g' at *
    have Z2 := zeros (s := encS d ++ r) (k := (k : Int) + 1) (by omega) (by omega)
    rw [show ((k : Int) + 1).toNat = k + 1 by omega] at Z2
    have A := fun y => add_tup1 (s := encS d ++ r) (xs := gd k) (y := y) (by omega)
    have ML := mul_lst0 (s := encS d ++ r) (k := k) (by omega)
    have M0 := mkLst_f (s := encS d ++ r) (vs := [PV.int 0]) (by simp)
    have MB := mkLst_f (s := encS d ++ r) (vs := bads k) (by unfold bads; simp)
    have MG := mkLst_f (s := encS d ++ r) (vs := [PV.tup (gd k)]) (by simp)
    have AL := fun ys h => addL_lst (s := encS d ++ r) (xs := bads k) (ys := ys) h
    have hb : (bads k).length = 11 := rfl
    unfold bads at *
    by_cases hk0 : 0 < k
    · have hk1 : (0 : Int) < (k : Int) := by omega
      rw [if_pos hk0] at e
      have AL := AL [PV.tup (gd k)] (by simp)
      generalize gd k = G at *
      generalize rep k [PV.int 0] = Z0 at *
      generalize List.replicate (k + 1) (0 : Int) = Z1 at *
      simp only [List.cons_append, List.nil_append] at AL e
      simp [start, mx, Z, Z2, A, ML, M0, MB, MG, AL, hk0, mkDic0, e]
    · have hk1 : ¬ (0 : Int) < (k : Int) := by omega
      rw [if_neg hk0] at e
      have AL := AL [] (by simp)
      generalize gd k = G at *
      generalize rep k [PV.int 0] = Z0 at *
      generalize List.replicate (k + 1) (0 : Int) = Z1 at *
      simp only [List.append_nil] at AL e
      simp [start, mx, Z, Z2, A, ML, M0, MB, MG, AL, hk0, mkDic0, e]
  · rcases List.mem_append.mp hv with h | h
    · exact .inl h
    · split at h
      · rename_i h0
        exact .inr ⟨h0, List.mem_singleton.mp h⟩
      · cases h
abbrev s15 : S := .asg (.tp (.cons (.nm 8) (.cons (.nm 9) .nil))) (.tup (.cons (.call "_law_pick" (.cons (.var 1) (.cons (.lst false (.cons .non (.cons (.int 0) (.cons (.lst false (.cons (.int 0) .nil)) (.cons (.tup (.cons (.int 2) .nil)) (.cons (.tup (.cons (.bl true) .nil)) (.cons (.tup (.cons .non .nil)) (.cons (.str "row") (.cons (.dnew false false) (.cons (.op .mul (.tup (.cons (.int 0) .nil)) (.int 10)) (.cons (.tup (.cons (.tup (.cons (.int 0) .nil)) .nil)) (.cons (.tup (.cons (.neg (.int 2)) (.cons (.int 0) .nil))) .nil)))))))))))) .nil))) (.cons (.call "_law_tg_no_row" (.cons (.var 1) (.cons (.var 3) .nil))) .nil)))
theorem s15_ok {k : Nat} (hk : k ≤ 9) (h0 : 0 ≤ d.turn) (h1 : d.turn < 2 ^ 38) : ∃ (v w : PV) (d' : DSt), (AnyV v ∧ rowV v = false) ∧ (AnyV w ∧ sgV w k = false) ∧ exS Φ s15 (lawE scr j2 (some (.int k)) j4 j5 j6 j7 j8 j9 j10) (encS d ++ r) = .ok (.nx (lawE scr j2 (some (.int k)) j4 j5 j6 j7 (some v) (some w) j10)) (encS d' ++ r) ∧ d.turn ≤ d'.turn ∧ d'.turn ≤ d.turn + 2 := by
  obtain ⟨v, d1, hv, e1, t0, t1⟩ := pick_lst drawT (n := 17) d r odds (by unfold odds; simp) (by unfold odds; simp) h0 (by omega)
  obtain ⟨w, d2, e2, hw, u0, u1⟩ := no_row_ok (d := d1) (r := r) hk (by omega) (by omega)
  refine ⟨v, w, d2, odds_ok hv, hw, ?_, by omega, by omega⟩
  have Z2 := zeros (s := encS d ++ r) (k := 10) (by omega) (by omega)
  rw [show (10 : Int).toNat = 10 from rfl] at Z2
  have M0 := mkLst_f (s := encS d ++ r) (vs := [PV.int 0]) (by simp)
  have MB := mkLst_f (s := encS d ++ r) (vs := odds) (by unfold odds; simp)
  unfold odds at *
  generalize List.replicate 10 (0 : Int) = Z1 at *
  simp [lawE, Z2, M0, MB, mkDic0, e1, e2]
theorem kind_ok : run T 20 "_law_tp_kind" [badRow] s = .ok (.str "row ") s := by
  rw [run_mk (show T "_law_tp_kind" = some f__law_tp_kind from rfl) rfl]
  rfl
abbrev s16 : S := .forr (.nm 10) (.val (.lst false (.cons (.lamk 0) (.cons (.lamk 1) (.cons (.lamk 2) (.cons (.lamk 3) (.cons (.lamk 4) (.cons (.lamk 5) (.cons (.lamk 6) (.cons (.lamk 7) .nil)))))))))) (.cons (.iff (.cmp .ne (.call "_law_tp_kind" (.cons (.caught 10 ["BadRow"] (.cons (.call "negative" (.cons (.var 8) .nil)) (.cons (.call "support" (.cons (.var 8) .nil)) (.cons (.call "composed" (.cons (.var 8) (.cons .non .nil))) (.cons (.call "composed" (.cons (.var 4) (.cons (.var 9) .nil))) (.cons (.call "apart" (.cons (.var 8) (.cons .non .nil))) (.cons (.call "apart" (.cons (.var 4) (.cons (.var 9) .nil))) (.cons (.call "are_orthogonal" (.cons (.var 8) (.cons .non .nil))) (.cons (.call "are_orthogonal" (.cons (.var 4) (.cons (.var 9) .nil))) .nil))))))))) .nil)) (.str "row ")) (.cons (.ret (.bl false)) .nil) .nil) .nil)
abbrev lams : Es := .cons (.call "negative" (.cons (.var 8) .nil)) (.cons (.call "support" (.cons (.var 8) .nil)) (.cons (.call "composed" (.cons (.var 8) (.cons .non .nil))) (.cons (.call "composed" (.cons (.var 4) (.cons (.var 9) .nil))) (.cons (.call "apart" (.cons (.var 8) (.cons .non .nil))) (.cons (.call "apart" (.cons (.var 4) (.cons (.var 9) .nil))) (.cons (.call "are_orthogonal" (.cons (.var 8) (.cons .non .nil))) (.cons (.call "are_orthogonal" (.cons (.var 4) (.cons (.var 9) .nil))) .nil)))))))
abbrev bdy : Ss := .cons (.iff (.cmp .ne (.call "_law_tp_kind" (.cons (.caught 10 ["BadRow"] (.cons (.call "negative" (.cons (.var 8) .nil)) (.cons (.call "support" (.cons (.var 8) .nil)) (.cons (.call "composed" (.cons (.var 8) (.cons .non .nil))) (.cons (.call "composed" (.cons (.var 4) (.cons (.var 9) .nil))) (.cons (.call "apart" (.cons (.var 8) (.cons .non .nil))) (.cons (.call "apart" (.cons (.var 4) (.cons (.var 9) .nil))) (.cons (.call "are_orthogonal" (.cons (.var 8) (.cons .non .nil))) (.cons (.call "are_orthogonal" (.cons (.var 4) (.cons (.var 9) .nil))) .nil))))))))) .nil)) (.str "row ")) (.cons (.ret (.bl false)) .nil) .nil) .nil
theorem nth_ok {a : List Int} {v w : PV} (ha : Row a) (hv : AnyV v ∧ rowV v = false) (hw : AnyV w ∧ sgV w a.length = false) {k : Nat} (hk : k < 8) : evNth Φ lams k (lawE scr j2 j3 (some (tupI a)) j5 j6 j7 (some v) (some w) j10) s = .exc badRow s := by
  have n1 := negative_bad rowsT (n := 14) (s := s) hv.1 hv.2
  have n2 := support_bad rowsT (n := 14) (s := s) hv.1 hv.2
  have t1 := need_two_first rowsT (n := 13) (s := s) (w := .non) hv.1 hv.2
  have t2 := need_two_other rowsT (n := 13) (s := s) ha hw.1 hw.2
  have c1 := composed_bad rowsT (n := 13) t1
  have c2 := composed_bad rowsT (n := 13) t2
  have a1 := apart_bad rowsT (n := 13) t1
  have a2 := apart_bad rowsT (n := 13) t2
  have o1 := orth_bad rowsT (n := 13) t1
  have o2 := orth_bad rowsT (n := 13) t2
  match k, hk with
  | 0, _ => simp [lawE, n1]
  | 1, _ => simp [lawE, n2]
  | 2, _ => simp [lawE, c1]
  | 3, _ => simp [lawE, c2]
  | 4, _ => simp [lawE, a1]
  | 5, _ => simp [lawE, a2]
  | 6, _ => simp [lawE, o1]
  | 7, _ => simp [lawE, o2]
theorem s16_ok {a : List Int} {v w : PV} (ha : Row a) (hv : AnyV v ∧ rowV v = false) (hw : AnyV w ∧ sgV w a.length = false) : ∃ k10, exS Φ s16 (lawE scr j2 j3 (some (tupI a)) j5 j6 j7 (some v) (some w) j10) s = .ok (.nx (lawE scr j2 j3 (some (tupI a)) j5 j6 j7 (some v) (some w) k10)) s := by
  obtain ⟨ρ', s', e, ⟨k10, e1, e2⟩, _⟩ := forGo_inv (X := Nat) (enc := PV.clo) (wt := []) (bind := fun x ρ => evTg Φ (.nm 10) x ρ) (body := exSs Φ bdy)
    (fun rr ρ s' => (∃ k10, ρ = lawE scr j2 j3 (some (tupI a)) j5 j6 j7 (some v) (some w) k10 ∧ s' = s) ∧ ∀ k ∈ rr, k < 8) (fun _ _ _ _ => rfl)
    (fun k rr ρ s' ⟨⟨k10, e1, e2⟩, hr⟩ => by
      subst e1 e2
      refine ⟨lawE scr j2 j3 (some (tupI a)) j5 j6 j7 (some v) (some w) (some (.clo k)), s', by simp [lawE], lawE scr j2 j3 (some (tupI a)) j5 j6 j7 (some v) (some w) (some (.clo k)), s', .inl ?_, ⟨_, rfl, rfl⟩, fun q hq => hr q (List.mem_cons_of_mem _ hq)⟩
      have N := nth_ok (scr := scr) (j2 := j2) (j3 := j3) (j5 := j5) (j6 := j6) (j7 := j7) (j10 := some (.clo k)) (s := s') ha hv hw (hr k (List.mem_cons_self ..))
      have C := evE_caught (Φ := Φ) (es := lams) (s := s') (i := 10) (k := k) (cs := ["BadRow"]) (ρ := lawE scr j2 j3 (some (tupI a)) j5 j6 j7 (some v) (some w) (some (.clo k))) rfl
      rw [N] at C
      have C2 : cR ["BadRow"] (.exc badRow s') = .ok badRow s' := by simp [badRow]
      rw [C2] at C
      have K := kind_ok (s := s')
      have NE := ne_str_same (s := s') (t := "row ") (by decide +kernel)
      simp [C, K, NE])
    [0, 1, 2, 3, 4, 5, 6, 7] (lawE scr j2 j3 (some (tupI a)) j5 j6 j7 (some v) (some w) j10) s ⟨⟨_, rfl, rfl⟩, by decide⟩
  subst e1 e2
  refine ⟨k10, ?_⟩
  have M := mkLst_f (s := s') (vs := [PV.clo 0, .clo 1, .clo 2, .clo 3, .clo 4, .clo 5, .clo 6, .clo 7]) (by simp)
  simp only [List.map_cons, List.map_nil] at e
  rw [exS_forr]
  simp only [evIt_val, evE_lst, evEs_cons, evEs_nil, evE_lamk, bR_ok, M, seqOf_lst, Option.map_some, oR_some, sR_ok, watch_lst]
  exact e
abbrev turnB : Ss := .cons s1 (.cons s2 (.cons s3 (.cons s4 (.cons s5 (.cons s6 (.cons s7 (.cons s8 (.cons s9 (.cons s10 (.cons s11 (.cons s12 (.cons s13 (.cons s14 (.cons s15 (.cons s16 .nil)))))))))))))))
theorem nx_step {x : S} {b : Ss} {ρ ρ' : Env} {s s' : Store} (h : exS Φ x ρ s = .ok (.nx ρ') s') : exSs Φ (.cons x b) ρ s = exSs Φ b ρ' s' := by rw [exSs_cons, h, kR_nx]
theorem turn_ok (h0 : 0 ≤ d.turn) (h1 : d.turn < 2 ^ 36) : ∃ (d' : DSt) (k3 k4 k5 k6 k7 k8 k9 k10 : Option PV), d.turn ≤ d'.turn ∧ d'.turn ≤ d.turn + 100 ∧ exSs Φ turnB (lawE scr j2 j3 j4 j5 j6 j7 j8 j9 j10) (encS d ++ r) = .ok (.nx (lawE scr j2 k3 k4 k5 k6 k7 k8 k9 k10)) (encS d' ++ r) := by
  obtain ⟨k, d1, hk, e1, a1, b1⟩ := s1_ok (scr := scr) (d := d) (r := r) (j2 := j2) (j3 := j3) (j4 := j4) (j5 := j5) (j6 := j6) (j7 := j7) (j8 := j8) (j9 := j9) (j10 := j10) h0 (by omega)
  obtain ⟨a, b, c, d2, ⟨ra, rb, rc⟩, ⟨la, lb, lc⟩, e2, a2, b2⟩ := s2_ok (scr := scr) (d := d1) (r := r) (j2 := j2) (j4 := j4) (j5 := j5) (j6 := j6) (j7 := j7) (j8 := j8) (j9 := j9) (j10 := j10) hk (by omega) (by omega)
  have hab : a.length = b.length := by omega
  have hbc : b.length = c.length := by omega
  have e3 := s3_ok (scr := scr) (s := encS d2 ++ r) (j2 := j2) (j3 := some (.int k)) (j5 := some (tupI b)) (j6 := some (tupI c)) (j7 := j7) (j8 := j8) (j9 := j9) (j10 := j10) ra
  have e4 := s4_ok (scr := scr) (s := encS d2 ++ r) (j2 := j2) (j3 := some (.int k)) (j5 := some (tupI b)) (j6 := some (tupI c)) (j8 := j8) (j9 := j9) (j10 := j10) ra
  have e5 := s5_ok (scr := scr) (s := encS d2 ++ r) (b := b) (j2 := j2) (j3 := some (.int k)) (j6 := some (tupI c)) (j7 := some (tupI (negL a))) (j8 := j8) (j9 := j9) (j10 := j10) ra
  have e6 := s6_ok (scr := scr) (s := encS d2 ++ r) (j2 := j2) (j3 := some (.int k)) (j6 := some (tupI c)) (j8 := j8) (j9 := j9) (j10 := j10) ra rb hab
  have e7 := s7_ok (scr := scr) (s := encS d2 ++ r) (j2 := j2) (j3 := some (.int k)) (j7 := some (tupI (putL a b))) (j8 := j8) (j9 := j9) (j10 := j10) ra rb rc hab hbc
  have e8 := s8_ok (scr := scr) (s := encS d2 ++ r) (j2 := j2) (j6 := some (tupI c)) (j7 := some (tupI (putL a b))) (j8 := j8) (j9 := j9) (j10 := j10) ra la hab
  have e9 := s9_ok (scr := scr) (s := encS d2 ++ r) (j2 := j2) (j3 := some (.int k)) (j6 := some (tupI c)) (j8 := j8) (j9 := j9) (j10 := j10) ra rb hab
  have e10 := s10_ok (scr := scr) (s := encS d2 ++ r) (b := b) (j2 := j2) (j3 := some (.int k)) (j6 := some (tupI c)) (j7 := some (tupI (apL a b))) (j8 := j8) (j9 := j9) (j10 := j10) ra
  have e11 := s11_ok (scr := scr) (s := encS d2 ++ r) (j2 := j2) (j3 := some (.int k)) (j6 := some (tupI c)) (j8 := j8) (j9 := j9) (j10 := j10) ra rb hab
  have e12 := s12_ok (scr := scr) (s := encS d2 ++ r) (j2 := j2) (j5 := some (tupI b)) (j6 := some (tupI c)) (j7 := some (.bl (orL a b))) (j8 := j8) (j9 := j9) (j10 := j10) ra la
  have e13 := s13_ok (scr := scr) (s := encS d2 ++ r) (j2 := j2) (j5 := some (tupI b)) (j6 := some (tupI c)) (j7 := some (.bl (orL a b))) (j8 := j8) (j9 := j9) (j10 := j10) ra la
  have e14 := s14_ok (scr := scr) (s := encS d2 ++ r) (j2 := j2) (j3 := some (.int k)) (j5 := some (tupI b)) (j6 := some (tupI c)) (j8 := j8) (j9 := j9) (j10 := j10) ra
  obtain ⟨v, w, d3, hv, hw, e15, a3, b3⟩ := s15_ok (scr := scr) (d := d2) (r := r) (j2 := j2) (j4 := some (tupI a)) (j5 := some (tupI b)) (j6 := some (tupI c)) (j7 := some (tupI (suL a))) (j8 := j8) (j9 := j9) (j10 := j10) hk (by omega) (by omega)
  obtain ⟨k10, e16⟩ := s16_ok (scr := scr) (s := encS d3 ++ r) (j2 := j2) (j3 := some (.int k)) (j5 := some (tupI b)) (j6 := some (tupI c)) (j7 := some (tupI (suL a))) (j10 := j10) ra hv (by rw [la]; exact hw)
  refine ⟨d3, some (.int k), some (tupI a), some (tupI b), some (tupI c), some (tupI (suL a)), some v, some w, k10, by omega, by omega, ?_⟩
  rw [nx_step e1, nx_step e2, nx_step e3, nx_step e4, nx_step e5, nx_step e6, nx_step e7, nx_step e8, nx_step e9, nx_step e10, nx_step e11, nx_step e12, nx_step e13, nx_step e14, nx_step e15, nx_step e16, exSs_nil]
end
theorem law_plain : ∀ ns : List Int, ns.length ≤ 63 → ∃ s', run T 21 "law" [.scr (ns.map .int)] [] = .ok (.bl true) s' := by
  intro ns hns
  obtain ⟨d, e0, t0⟩ := begun_ok drawT (n := 19) ns hns
  have e0 : run T 20 "_law_begun" [.scr (ns.map .int)] [] = .ok (.ref 1) (encS d) := e0
  obtain ⟨ρ', s', e, d', r, eS, t1, t2, j2, j3, j4, j5, j6, j7, j8, j9, j10, eR⟩ := forGo_inv (X := Int) (enc := PV.int) (wt := []) (bind := fun x ρ => evTg Φ (.nm 2) x ρ) (body := exSs Φ turnB)
    (fun rr ρ s' => ∃ (d' : DSt) (r : Store), s' = encS d' ++ r ∧ 0 ≤ d'.turn ∧ d'.turn + 100 * (rr.length : Int) ≤ 1000000 ∧ ∃ j2 j3 j4 j5 j6 j7 j8 j9 j10, ρ = lawE (.scr (ns.map .int)) j2 j3 j4 j5 j6 j7 j8 j9 j10) (fun _ _ _ _ => rfl)
    (fun x rr ρ s' ⟨d', r, eS, t1, t2, j2, j3, j4, j5, j6, j7, j8, j9, j10, eR⟩ => by
      subst eS eR
      rw [List.length_cons] at t2
      obtain ⟨d2, k3, k4, k5, k6, k7, k8, k9, k10, u0, u1, e⟩ := turn_ok (scr := .scr (ns.map .int)) (d := d') (r := r) (j2 := some (.int x)) (j3 := j3) (j4 := j4) (j5 := j5) (j6 := j6) (j7 := j7) (j8 := j8) (j9 := j9) (j10 := j10) t1 (by omega)
      exact ⟨lawE (.scr (ns.map .int)) (some (.int x)) j3 j4 j5 j6 j7 j8 j9 j10, encS d' ++ r, by simp [lawE], _, _, .inl e, d2, r, rfl, by omega, by omega, _, _, _, _, _, _, _, _, _, rfl⟩)
    (rgN 0 (6 + (if (8 : Int) < ns.length then 8 else (ns.length : Int)))) (lawE (.scr (ns.map .int)) none none none none none none none none none) (encS d) ⟨d, [], (List.append_nil _).symm, by omega, by rw [rgN_length]; split <;> omega, none, none, none, none, none, none, none, none, none, rfl⟩
  subst eS eR
  refine ⟨encS d' ++ r, ?_⟩
  rw [run_mk (show T "law" = some f_law from rfl) rfl]
  have z1 : exS Φ (.asg (.nm 1) (.call "_law_begun" (.cons (.var 0) .nil))) [some (.scr (ns.map .int)), none, none, none, none, none, none, none, none, none, none, none, none] [] = .ok (.nx (lawE (.scr (ns.map .int)) none none none none none none none none none)) (encS d) := by
    simp [lawE, e0]
  have it : evIt Φ (.rng1 (.op .add (.int 6) (.bi .min2 (.cons (.bi .len (.cons (.var 0) .nil)) (.cons (.int 8) .nil))))) (lawE (.scr (ns.map .int)) none none none none none none none none none) (encS d) = .ok ((rgN 0 (6 + (if (8 : Int) < ns.length then 8 else (ns.length : Int)))).map .int, []) (encS d) := by
    refine evIt_rng1_of ?_ (by split <;> omega) (by split <;> omega)
    have mn : ∀ i j : Int, ∀ s, biF .min2 [.int i, .int j] s = some (.int (if j < i then j else i)) := fun _ _ _ => rfl
    simp [lawE, mn]
  have z2 : exS Φ (.forr (.nm 2) (.rng1 (.op .add (.int 6) (.bi .min2 (.cons (.bi .len (.cons (.var 0) .nil)) (.cons (.int 8) .nil))))) turnB) (lawE (.scr (ns.map .int)) none none none none none none none none none) (encS d) = .ok (.nx (lawE (.scr (ns.map .int)) j2 j3 j4 j5 j6 j7 j8 j9 j10)) (encS d' ++ r) := by
    rw [exS_forr, it, sR_ok]
    exact e
  simp only [start, List.map_cons, List.map_nil, List.length_cons, List.length_nil, List.cons_append, List.nil_append, Nat.zero_add, Nat.reduceAdd, Nat.reduceSub, List.reduceReplicate]
  rw [nx_step z1, nx_step z2]
  rw [exSs_cons, exS_ret, evE_bl, sR_ok, kR_rt, rR_rt]
  rfl
end K01

set_option Elab.async false
set_option linter.all false
set_option maxRecDepth 100000
set_option maxHeartbeats 0
namespace K01
open PySem PySem.Spec L2 Mini
def top (i : Nat) : Stmt := PySem.Challenge.pw_signsalone_k01_whole_rows_of_signs.main.body.getD i (.Pass ⟨0, 0, 0, 0⟩)
def e_is_whole : Mini.Entry := ⟨"is_whole", top 1, f_is_whole⟩
def e_is_number : Mini.Entry := ⟨"is_number", top 2, f_is_number⟩
def e_are_signs : Mini.Entry := ⟨"are_signs", top 16, f_are_signs⟩
def e_is_row : Mini.Entry := ⟨"is_row", top 17, f_is_row⟩
def e_need_row : Mini.Entry := ⟨"need_row", top 18, f_need_row⟩
def e_need_two : Mini.Entry := ⟨"need_two", top 19, f_need_two⟩
def e_negated : Mini.Entry := ⟨"negated", top 20, f_negated⟩
def e_negative : Mini.Entry := ⟨"negative", top 21, f_negative⟩
def e_put_on : Mini.Entry := ⟨"put_on", top 22, f_put_on⟩
def e_composed : Mini.Entry := ⟨"composed", top 23, f_composed⟩
def e_parted : Mini.Entry := ⟨"parted", top 24, f_parted⟩
def e_apart : Mini.Entry := ⟨"apart", top 25, f_apart⟩
def e_at_right_angles : Mini.Entry := ⟨"at_right_angles", top 26, f_at_right_angles⟩
def e_are_orthogonal : Mini.Entry := ⟨"are_orthogonal", top 27, f_are_orthogonal⟩
def e_borne : Mini.Entry := ⟨"borne", top 28, f_borne⟩
def e_support : Mini.Entry := ⟨"support", top 29, f_support⟩
def e__law_begun : Mini.Entry := ⟨"_law_begun", top 31, f__law_begun⟩
def e__law_blended : Mini.Entry := ⟨"_law_blended", top 32, f__law_blended⟩
def e__law_draw : Mini.Entry := ⟨"_law_draw", top 33, f__law_draw⟩
def e__law_pick : Mini.Entry := ⟨"_law_pick", top 34, f__law_pick⟩
def e__law_is_truth : Mini.Entry := ⟨"_law_is_truth", top 36, f__law_is_truth⟩
def e__law_tg_row : Mini.Entry := ⟨"_law_tg_row", top 37, f__law_tg_row⟩
def e__law_tg_put : Mini.Entry := ⟨"_law_tg_put", top 38, f__law_tg_put⟩
def e__law_tg_right : Mini.Entry := ⟨"_law_tg_right", top 39, f__law_tg_right⟩
def e__law_tg_no_row : Mini.Entry := ⟨"_law_tg_no_row", top 40, f__law_tg_no_row⟩
def e__law_tp_kind : Mini.Entry := ⟨"_law_tp_kind", top 41, f__law_tp_kind⟩
def e_law : Mini.Entry := ⟨"law", top 42, f_law⟩
def es : List Mini.Entry := ([e_is_whole, e_is_number, e_are_signs, e_is_row, e_need_row, e_need_two, e_negated, e_negative, e_put_on, e_composed, e_parted, e_apart, e_at_right_angles, e_are_orthogonal, e_borne, e_support, e__law_begun, e__law_blended, e__law_draw, e__law_pick, e__law_is_truth, e__law_tg_row, e__law_tg_put, e__law_tg_right, e__law_tg_no_row, e__law_tp_kind] : List Mini.Entry)
def xs : List Str := ["BadRow"]
def gi : List (Str × Int) := [("MOST_ELEMENTS", 9)]
def er : ErT := [("BadVectors", false, ["BadRow"]), ("NotSpanning", false, ["BadRow"]), ("BadTable", false, ["BadRow"]), ("BadElements", false, ["BadRow"]), ("BadSigns", false, ["BadRow"]), ("NotTable", false, ["BadRow"]), ("BadSize", false, ["BadRow"]), ("BadRank", false, ["BadRow"]), ("BadRow", false, ["BadRow"]), ("ValueError", true, ["BadRow"]), ("SignError", true, ["BadRow"])]
def stC : Stmt := top 35
def cs : List Str := ["BadRow"]
def L : List (Expr × Scope) := ([[1, 16, 0, 0], [1, 16, 0, 1], [1, 16, 0, 2], [1, 16, 0, 3], [1, 16, 0, 4], [1, 16, 0, 5], [1, 16, 0, 6], [1, 16, 0, 7]] : List (List Nat)).filterMap (lamAt (defBody (top 42)))
def fa : List He.Fa := faL es xs gi cs e_law
def fn : List He.DefD := fnL es e_law stC
abbrev R : PySem.W.OpenRow := PySem.W.OpenLaw.row PySem.Challenge.rw_signsalone_k01_whole_rows_of_signs
abbrev hk : PySem.W.Hook := He.hookX 4 fa fn [] [("law", none)] (erB er)
def ob (s : PySem.W.SharedT) : He.AlX := He.obsX 4 fa fn [] [("law", none)] (erB er) (HandSHeadRun.getT s)
theorem ob_eq (s : PySem.W.SharedT) : ob s = hk.obs s.abs := He.obsX_eq (HandSHeadRun.getT_eq s)
def loose : List Str := (["is_whole", "is_number", "SignError", "BadElements", "BadRank", "BadRow", "BadSigns", "BadSize", "BadTable", "BadVectors", "NotSpanning", "NotTable", "MOST_ELEMENTS", "are_signs", "is_row", "need_row", "need_two", "negated", "negative", "put_on", "composed", "parted", "apart", "at_right_angles", "are_orthogonal", "borne", "support", "_law_begun", "_law_blended", "_law_draw"] : List Str) ++ (["_law_pick", "_law_caught", "_law_is_truth", "_law_tg_row", "_law_tg_put", "_law_tg_right", "_law_tg_no_row", "_law_tp_kind"] : List Str)
theorem run_ok (w : World) : HandSHeadRun.RunEq R (PySem.W.view R.prog [42]) hk ob 4000 loose w := by
  intro os
  kernel_rfl
theorem chk_all : es.all (chkFn (tabF es) gi xs er) = true := by decide +kernel
theorem chk_law : chkLaw (tabF es) gi xs L cs er e_law = true := by decide +kernel
theorem cau_b : ∃ P, defBody stC = cauBody P := ⟨cauPd (defBody stC), by kernel_rfl⟩
theorem cau_s : CauS (defScope stC) := cauSB_ok (by decide +kernel)
theorem cau_a : plainA (defArgs stC) ["work"] = true := by decide +kernel
theorem tab_all : ∀ e ∈ es, T e.name = some e.fn := tab_okL (e := e_law) rfl (by decide +kernel)
end K01

set_option Elab.async false
set_option linter.all false
set_option maxRecDepth 100000
set_option maxHeartbeats 0
theorem K01.law_true : Mini.LawT K01.T 21 63 := K01.law_plain
open PySem PySem.W PySem.Calls PyProof.Rows
theorem PySem.Challenge.cw_signsalone_k01_whole_rows_of_signs_holds : PySem.Challenge.rw_signsalone_k01_whole_rows_of_signs.Holds := by
  w_on; o_law
  refine HandSHeadRun.head_any (r := OpenLaw.row PySem.Challenge.rw_signsalone_k01_whole_rows_of_signs) (q := view (OpenLaw.row PySem.Challenge.rw_signsalone_k01_whole_rows_of_signs).prog [42]) (H := K01.hk) (ob := K01.ob) (M := 4000) (loose := K01.loose) (d := HandSHeadRun.topDef (OpenLaw.row PySem.Challenge.rw_signsalone_k01_whole_rows_of_signs).prog 42) (kwd := []) K01.ob_eq
    (by kernel_rfl) (fun s => by kernel_rfl) K01.run_ok (by kernel_rfl) (by kernel_rfl) (by kernel_rfl) (by rfl) (by first | assumption | decide +kernel) (by decide +kernel) ⟨rfl, rfl, rfl, rfl, rfl, by decide +kernel⟩ ?hw ?hc
  case hw => w_witness2
  case hc =>
    exact Mini.walk_lawL (l := PySem.Challenge.rw_signsalone_k01_whole_rows_of_signs) (n := 63) (m := 20) (x := "script") (es := K01.es) (xs := K01.xs) (gi := K01.gi) (er := K01.er) (cs := K01.cs) (L := K01.L) (stC := K01.stC) (T := K01.T) (e := K01.e_law) rfl (by decide) (by kernel_rfl) ⟨rfl, by decide, by decide⟩
      K01.chk_all K01.tab_all rfl K01.chk_law K01.cau_b K01.cau_s K01.cau_a rfl (by kernel_rfl) rfl K01.law_true

