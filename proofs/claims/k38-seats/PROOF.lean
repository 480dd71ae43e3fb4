import PyProof.Rows.All
import Wide.All
import OpenK.AllK
import Wide.FinOn
import HandS.ForMost
import HandS.Deep
import HandS.Conv
import HandS.TupAny
import HandS.Flow
import HandS.IsInst
import KE.SortData
import HandS.ForExc
import HandS.TryMany
import HandS.ExcIs
import HandS.ExcField
import HandS.Small
import HandS.WordsExc
import PySem.Challenge.RW_takersrest_k38_seats
set_option Elab.async false
set_option linter.all false
set_option maxRecDepth 100000
namespace Tk
open PySem L2

/-- plain data; lists and dicts are values here; ref n is the n-th object of the store -/
inductive D where
  | non | bl (b : Bool) | int (i : Int) | str (s : Str)
  | tup (xs : List D) | lst (xs : List D) | dct (ks : List Int) (vs : List D)
  | ref (n : Nat)
  /-- the law's own argument -/
  | scr (xs : List Int)
  deriving Inhabited

/-- what may change: a list, a dict -/
inductive MO where
  | lst (xs : List D) | dct (ks : List Int) (vs : List D)
/-- an object of the store -/
inductive SO where
  | mo (m : MO) | ins (C : String) (fs : List (String × D))
/-- a slot: unassigned, a value that never changes, or a list or dict that only this slot holds -/
inductive Slot where
  | no | val (d : D) | own (m : MO)
structure Sg where
  env : List Slot
  st : List SO
/-- a result: a value or a thing that nobody else holds -/
inductive Rv where
  | val (d : D) | own (m : MO)
structure Exc where
  cls : String
  fs : List (String × D)
inductive Out (α : Type) where
  | ok (a : α) (s : Sg) | ex (x : Exc) (s : Sg) | no
namespace Out
def bind {α β : Type} : Out α → (α → Sg → Out β) → Out β
  | ok a s, f => f a s
  | ex x s, _ => ex x s
  | no, _ => no
@[simp] theorem bind_ok {α β : Type} (a : α) (s : Sg) (f : α → Sg → Out β) : (ok a s).bind f = f a s := rfl
@[simp] theorem bind_ex {α β : Type} (x : Exc) (s : Sg) (f : α → Sg → Out β) : (ex x s : Out α).bind f = ex x s := rfl
@[simp] theorem bind_no {α β : Type} (f : α → Sg → Out β) : (no : Out α).bind f = no := rfl
/-- a pure answer or none -/
def opt {α : Type} (o : Option α) (s : Sg) : Out α := match o with
  | some a => ok a s
  | none => no
@[simp] theorem opt_some {α : Type} (a : α) (s : Sg) : opt (some a) s = ok a s := rfl
@[simp] theorem opt_none {α : Type} (s : Sg) : opt (none : Option α) s = no := rfl
end Out

def MO.frz : MO → D
  | .lst xs => .lst xs
  | .dct ks vs => .dct ks vs
def Rv.frz : Rv → D
  | .val d => d
  | .own m => m.frz
@[simp] theorem MO.frz_lst (xs : List D) : (MO.lst xs).frz = .lst xs := rfl
@[simp] theorem MO.frz_dct (ks : List Int) (vs : List D) : (MO.dct ks vs).frz = .dct ks vs := rfl
@[simp] theorem Rv.frz_val (d : D) : (Rv.val d).frz = d := rfl
@[simp] theorem Rv.frz_own (m : MO) : (Rv.own m).frz = m.frz := rfl

mutual
def beqD : D → D → Bool
  | .non, .non => true
  | .bl a, .bl b => a == b
  | .int a, .int b => a == b
  | .str a, .str b => decide (a = b)
  | .tup xs, .tup ys => beqDs xs ys
  | .lst xs, .lst ys => beqDs xs ys
  | .dct ks xs, .dct js ys => decide (ks = js) && beqDs xs ys
  | .ref n, .ref m => n == m
  | .scr xs, .scr ys => decide (xs = ys)
  | _, _ => false
def beqDs : List D → List D → Bool
  | [], [] => true
  | x :: xs, y :: ys => beqD x y && beqDs xs ys
  | _, _ => false
end
mutual
theorem beqD_refl : ∀ d : D, beqD d d = true
  | .non => rfl
  | .bl _ => by simp [beqD]
  | .int _ => by simp [beqD]
  | .str _ => by simp [beqD]
  | .tup xs => by simp [beqD, beqDs_refl xs]
  | .lst xs => by simp [beqD, beqDs_refl xs]
  | .dct ks xs => by simp [beqD, beqDs_refl xs]
  | .ref _ => by simp [beqD]
  | .scr _ => by simp [beqD]
theorem beqDs_refl : ∀ ds : List D, beqDs ds ds = true
  | [] => rfl
  | d :: ds => by simp [beqDs, beqD_refl d, beqDs_refl ds]
end
mutual
theorem beqD_eq : ∀ {a b : D}, beqD a b = true → a = b
  | .non, b, h => by cases b <;> simp [beqD] at h ⊢
  | .bl _, b, h => by cases b <;> simp [beqD] at h ⊢; exact h
  | .int _, b, h => by cases b <;> simp [beqD] at h ⊢; exact h
  | .str _, b, h => by cases b <;> simp [beqD] at h ⊢; exact h
  | .tup xs, b, h => by cases b <;> simp [beqD] at h ⊢; exact beqDs_eq h
  | .lst xs, b, h => by cases b <;> simp [beqD] at h ⊢; exact beqDs_eq h
  | .dct ks xs, b, h => by cases b <;> simp [beqD] at h ⊢; exact ⟨h.1, beqDs_eq h.2⟩
  | .ref _, b, h => by cases b <;> simp [beqD] at h ⊢; exact h
  | .scr _, b, h => by cases b <;> simp [beqD] at h ⊢; exact h
theorem beqDs_eq : ∀ {a b : List D}, beqDs a b = true → a = b
  | [], b, h => by cases b <;> simp [beqDs] at h ⊢
  | x :: xs, b, h => by
    cases b with
    | nil => simp [beqDs] at h
    | cons y ys => simp [beqDs] at h; rw [beqD_eq h.1, beqDs_eq h.2]
end

mutual
def D.py : D → Option PyData
  | .non => some .none
  | .bl b => some (.bool b)
  | .int i => some (.int i)
  | .str s => some (.str s)
  | .tup xs => (D.pys xs).map .tuple
  | .lst xs => (D.pys xs).map .list
  | .dct _ _ => none
  | .ref _ => none
  | .scr _ => none
def D.pys : List D → Option (List PyData)
  | [] => some []
  | x :: xs => match D.py x, D.pys xs with
    | some a, some as => some (a :: as)
    | _, _ => none
end

/-- the greatest length that is looked at -/
def LIM : Nat := 1048576

inductive Bop where | add | sub | mul | mod | fdiv | pow
  deriving DecidableEq
inductive Cop where | eq | ne | lt | le | gt | ge | isIn | notIn
  deriving DecidableEq
/-- the built-ins -/
inductive Bif where
  | len | sum | maxL | max2 | minL | min2 | any | all | sorted | sortSet | lenSet
  | tuple | list | tupRange | lstRange | abs | int | str | zipT
  deriving DecidableEq
inductive Ty where | int | bool | tuple | list | str
  deriving DecidableEq

inductive E where
  | var (i : Nat)
  | non | bl (b : Bool) | int (i : Int) | str (s : String)
  | tup (es : List E) | lst (es : List E) | dct0
  | bin (op : Bop) (a b : E) | neg (a : E)
  | cmp (op : Cop) (a b : E) | isN (a : E) | notN (a : E) | isB (neg : Bool) (a : E) (b : Bool)
  | chain (o1 o2 : Cop) (a b c : E)
  | not (a : E) | truth (a : E) | and (a b : E) | or (a b : E)
  | ife (t a b : E)
  | idx (a i : E) | slc (a : E) (lo hi : Option E)
  | call (f : String) (es : List E)
  | bif (f : Bif) (es : List E)
  | isi (a : E) (t : Ty)
  /-- the value, held for good; the thing, put into the store -/
  | val (e : E) | mk (e : E)
  | lc (vs : List Nat) (elt : E) (tg : List Nat) (rg : Bool) (it : E) (cond : Option E)

inductive Tg where
  | var (i : Nat) | tup (is : List Nat)
inductive St where
  | asg (t : Tg) (e : E) | asgR (i : Nat) (e : E)
  | setI (a i e : E)
  | aug (i : Nat) (e : E)
  | app (a e : E)
  | expr (e : E)
  | ite (t : E) (a b : List St)
  | for_ (t : Tg) (rg : Bool) (it : E) (body : List St)
  | whl (t : E) (body : List St)
  | ret (e : E) | retN
  | brk | pass
end Tk
namespace Tk
open PySem L2

def pyD (d : D) : PyData := (D.py d).getD .none
/-- data that may be compared -/
def D.plain (d : D) : Bool := match D.py d with
  | some p => SeqAt.shaped p
  | none => false
def eqD (a b : D) : Option Bool := if a.plain && b.plain then some (PyData.eqv (pyD a) (pyD b)) else none
def memD (x : D) (ds : List D) : Option Bool :=
  if x.plain && (D.lst ds).plain then some (ds.any fun z => PyData.eqv (pyD z) (pyD x)) else none

def smallI (i : Int) : Bool := decide (-(2 ^ 64) < i ∧ i < 2 ^ 64)
def binD : Bop → D → D → Option Rv
  | .add, .int i, .int j => some (.val (.int (i + j)))
  | .add, .str x, .str y => if x.length + y.length ≤ LIM then some (.val (.str (x ++ y))) else none
  | .add, .tup xs, .tup ys => if xs.length + ys.length ≤ LIM then some (.val (.tup (xs ++ ys))) else none
  | .add, .lst xs, .lst ys => if xs.length + ys.length ≤ LIM then some (.own (.lst (xs ++ ys))) else none
  | .sub, .int i, .int j => some (.val (.int (i - j)))
  | .mul, .int i, .int j => if smallI i || smallI j then some (.val (.int (i * j))) else none
  | .mul, .lst xs, .int k => if 0 ≤ k ∧ k ≤ (LIM : Int) ∧ xs.length * k.toNat ≤ LIM then some (.own (.lst ((List.replicate k.toNat xs).flatten))) else none
  | .mod, .int i, .int j => if j ≠ 0 then some (.val (.int (i.fmod j))) else none
  | .fdiv, .int i, .int j => if j ≠ 0 ∧ j.natAbs < 1073741824 then some (.val (.int (i.fdiv j))) else none
  | .pow, .int i, .int j => if 0 ≤ j ∧ j ≤ 1000000 ∧ i.natAbs < 2 ^ 64 then some (.val (.int (i ^ j.toNat))) else none
  | _, _, _ => none

def getK (ks : List Int) (vs : List D) (k : Int) : Option D := match ks, vs with
  | j :: ks, v :: vs => if j = k then some v else getK ks vs k
  | _, _ => none
def putV (ks : List Int) (vs : List D) (k : Int) (v : D) : List D := if k ∈ ks then List.zipWith (fun j w => if j = k then v else w) ks vs else vs ++ [v]
def putKs (ks : List Int) (k : Int) : List Int := if k ∈ ks then ks else ks ++ [k]

def cmpD : Cop → D → D → Option Bool
  | .eq, a, b => eqD a b
  | .ne, a, b => (eqD a b).map (!·)
  | .lt, .int i, .int j => some (decide (i < j))
  | .le, .int i, .int j => some (decide (i ≤ j))
  | .gt, .int i, .int j => some (decide (j < i))
  | .ge, .int i, .int j => some (decide (j ≤ i))
  | .isIn, x, .tup ys => memD x ys
  | .isIn, x, .lst ys => memD x ys
  | .isIn, .int k, .dct ks _ => some (decide (k ∈ ks))
  | .notIn, x, .tup ys => (memD x ys).map (!·)
  | .notIn, x, .lst ys => (memD x ys).map (!·)
  | .notIn, .int k, .dct ks _ => some (!decide (k ∈ ks))
  | _, _, _ => none

def idxD : D → D → Option D
  | .tup xs, .int i => atI xs i
  | .lst xs, .int i => atI xs i
  | .dct ks vs, .int k => getK ks vs k
  | .scr xs, .int i => (atI xs i).map .int
  | _, _ => none
def cutL {α : Type} (xs : List α) (lo hi : Option Int) : List α := (xs.drop (HT.sIx xs.length 0 lo)).take (HT.sIx xs.length xs.length hi - HT.sIx xs.length 0 lo)
def slcV : D → Option Int → Option Int → Option Rv
  | .tup xs, l, h => some (.val (.tup (cutL xs l h)))
  | .lst xs, l, h => some (.own (.lst (cutL xs l h)))
  | _, _, _ => none

def intsD : List D → Option (List Int)
  | [] => some []
  | .int i :: ds => (intsD ds).map (i :: ·)
  | _ => none
def boolsD : List D → Option (List Bool)
  | [] => some []
  | .bl i :: ds => (boolsD ds).map (i :: ·)
  | _ => none
def maxI : Int → List Int → Int
  | m, [] => m
  | m, x :: xs => maxI (if x > m then x else m) xs
def minI : Int → List Int → Int
  | m, [] => m
  | m, x :: xs => minI (if x < m then x else m) xs
def rangeD (n : Int) : List D := (List.range n.toNat).map fun k : Nat => D.int (k : Int)

/-- data that may be sorted together -/
def sortOk (ds : List D) : Bool := ds.all fun a => a.plain && ds.all fun b => PySem.W.alike (pyD a) (pyD b) && (match a with | .non => false | _ => true)
def leD (a b : D) : Bool := PySem.W.dataLe false pyD a b
def sortD (ds : List D) : Option (List D) := if sortOk ds then some (ds.mergeSort leD) else none
def dedupD : List D → List D
  | [] => []
  | d :: ds => if (dedupD ds).any (beqD d) then dedupD ds else d :: dedupD ds
/-- ints, or tuples of ints: what a set may hold -/
def setOk (ds : List D) : Bool := (intsD ds).isSome || ds.all fun d => match d with
  | .tup xs => (intsD xs).isSome
  | _ => false
def itemsD : D → Option (List D)
  | .tup xs => some xs
  | .lst xs => some xs
  | _ => none
def zipD : List D → List D → List D
  | x :: xs, y :: ys => .tup [x, y] :: zipD xs ys
  | _, _ => []

def bifD : Bif → List D → Option Rv
  | .len, [.tup xs] => some (.val (.int xs.length))
  | .len, [.lst xs] => some (.val (.int xs.length))
  | .len, [.scr xs] => some (.val (.int xs.length))
  | .len, [.str x] => if x.length ≤ LIM then some (.val (.int x.length)) else none
  | .sum, [.lst xs] => (intsD xs).map fun ns => .val (.int ns.sum)
  | .maxL, [.lst xs] => match intsD xs with
    | some (n :: ns) => some (.val (.int (maxI n ns)))
    | _ => none
  | .minL, [.lst xs] => match intsD xs with
    | some (n :: ns) => some (.val (.int (minI n ns)))
    | _ => none
  | .max2, [.int i, .int j] => some (.val (.int (if j > i then j else i)))
  | .min2, [.int i, .int j] => some (.val (.int (if j < i then j else i)))
  | .any, [.lst xs] => (boolsD xs).map fun bs => .val (.bl (bs.any id))
  | .all, [.lst xs] => (boolsD xs).map fun bs => .val (.bl (bs.all id))
  | .sorted, [.lst xs] => (sortD xs).map fun ys => .own (.lst ys)
  | .sortSet, [.lst xs] => if setOk xs then (sortD (dedupD xs)).map fun ys => .own (.lst ys) else none
  | .sortSet, [.tup xs] => if setOk xs then (sortD (dedupD xs)).map fun ys => .own (.lst ys) else none
  | .tuple, [.lst xs] => some (.val (.tup xs))
  | .tuple, [.tup xs] => some (.val (.tup xs))
  | .list, [.lst xs] => some (.own (.lst xs))
  | .list, [.tup xs] => some (.own (.lst xs))
  | .list, [.dct ks _] => some (.own (.lst (ks.map .int)))
  | .tupRange, [.int n] => if n ≤ (LIM : Int) ∧ -(LIM : Int) ≤ n then some (.val (.tup (rangeD n))) else none
  | .lstRange, [.int n] => if n ≤ (LIM : Int) ∧ -(LIM : Int) ≤ n then some (.own (.lst (rangeD n))) else none
  | .abs, [.int n] => some (.val (.int (if n < 0 then -n else n)))
  | .int, [.int n] => some (.val (.int n))
  | .int, [.bl b] => some (.val (.int (if b then 1 else 0)))
  | _, _ => none

def truthD : D → Option Bool
  | .non => some false
  | .bl b => some b
  | .int i => some (i != 0)
  | .tup xs => some (!xs.isEmpty)
  | .lst xs => some (!xs.isEmpty)
  | _ => none
def isiD : D → Ty → Option Bool
  | .int _, .int => some true
  | .bl _, .int => some true
  | .bl _, .bool => some true
  | .tup _, .tuple => some true
  | .lst _, .list => some true
  | .str _, .str => some true
  | .non, _ => some false
  | .int _, _ => some false
  | .bl _, _ => some false
  | .tup _, _ => some false
  | .lst _, _ => some false
  | .str _, _ => some false
  | _, _ => none

/-- an operand: the value now, or a slot whose thing is looked at later -/
inductive Hd where
  | now (d : D) | slot (i : Nat)
def derefD (st : List SO) : D → Option D
  | .ref n => match st[n]? with
    | some (.mo m) => some m.frz
    | some (.ins _ _) => some (.ref n)
    | none => none
  | d => some d
def rdH (S : Sg) : Hd → Option D
  | .now d => derefD S.st d
  | .slot i => match S.env[i]? with
    | some (.val d) => derefD S.st d
    | some (.own m) => some m.frz
    | _ => none
def rdHs (S : Sg) : List Hd → Option (List D)
  | [] => some []
  | h :: hs => match rdH S h, rdHs S hs with
    | some d, some ds => some (d :: ds)
    | _, _ => none
def getM (S : Sg) : Hd → Option MO
  | .now (.ref n) => match S.st[n]? with
    | some (.mo m) => some m
    | _ => none
  | .now _ => none
  | .slot i => match S.env[i]? with
    | some (.own m) => some m
    | some (.val (.ref n)) => match S.st[n]? with
      | some (.mo m) => some m
      | _ => none
    | _ => none
def putM (S : Sg) (m : MO) (h : Hd) : Sg := match h with
  | .now (.ref n) => { S with st := S.st.set n (.mo m) }
  | .now _ => S
  | .slot i => match S.env[i]? with
    | some (.own _) => { S with env := S.env.set i (.own m) }
    | some (.val (.ref n)) => { S with st := S.st.set n (.mo m) }
    | _ => S
/-- the thing that is walked is as it was -/
def still (S : Sg) (d : D) (h : Hd) : Bool := match rdH S h with
  | some d' => beqD d d'
  | none => false
/-- what is walked stands in no slot of the comprehension's own -/
def srcOut (vs : List Nat) : Hd → Bool
  | .now _ => true
  | .slot i => !(vs.contains i)
def appM : MO → D → Option MO
  | .lst xs, d => if xs.length < LIM then some (.lst (xs ++ [d])) else none
  | _, _ => none
def setM : MO → D → D → Option MO
  | .lst xs, .int i, d => (ixN xs.length i).map fun j => .lst (xs.set j d)
  | .dct ks vs, .int k, d => if ks.length < LIM then some (.dct (putKs ks k) (putV ks vs k d)) else none
  | _, _, _ => none

inductive Ans where
  | ret (r : Rv) (st : List SO) | exc (x : Exc) (st : List SO) | no
abbrev Fns := String → List D → List SO → Ans
def callD (Φ : Fns) (f : String) (ds : List D) (S : Sg) : Out Rv := match Φ f ds S.st with
  | .ret r st => .ok r { S with st := st }
  | .exc x st => .ex x { S with st := st }
  | .no => .no

def isVar : E → Option Nat
  | .var i => some i
  | _ => none
def hd (a : E) (f : Sg → Out Rv) (S : Sg) : Out Hd := match a with
  | .var i => match S.env[i]? with
    | some (.val _) => .ok (.slot i) S
    | some (.own _) => .ok (.slot i) S
    | _ => .no
  | _ => (f S).bind fun r S' => .ok (.now r.frz) S'
def setTg (env : List Slot) : List Nat → D → Option (List Slot)
  | [i], d => some (env.set i (.val d))
  | is, .tup ds => if is.length = ds.length ∧ 2 ≤ is.length then some ((is.zip ds).foldl (fun e p => e.set p.1 (.val p.2)) env) else none
  | _, _ => none
def wipeE (env : List Slot) (vs : List Nat) : List Slot := vs.foldl (fun e i => e.set i .no) env
def backE (env0 env : List Slot) (vs : List Nat) : List Slot := vs.foldl (fun e i => e.set i (env0.getD i .no)) env
def notOwn (env : List Slot) (vs : List Nat) : Bool := vs.all fun i => match env[i]? with
  | some (.own _) => false
  | some _ => true
  | none => false
def lcLoop (step : D → Sg → Out (Option D)) (ok : Sg → Bool) : List D → List D → Sg → Out (List D)
  | [], acc, S => .ok acc S
  | x :: xs, acc, S => match step x S with
    | .ok o S' => if ok S' then lcLoop step ok xs (acc ++ o.toList) S' else .no
    | _ => .no
/-- one turn of a comprehension -/
def lcTurn (vs tg : List Nat) (cond : Option (Sg → Out Rv)) (elt : Sg → Out Rv) (x : D) (S : Sg) : Out (Option D) :=
  match setTg (wipeE S.env vs) tg x with
  | none => .no
  | some env => match cond with
    | none => (elt { S with env := env }).bind fun r S' => .ok (some r.frz) S'
    | some c => (c { S with env := env }).bind fun r S' => match r with
      | .val (.bl true) => (elt S').bind fun r S' => .ok (some r.frz) S'
      | .val (.bl false) => .ok none S'
      | _ => .no
/-- what a for or a comprehension walks: the operand, what it holds, its items -/
def srcOf (rg : Bool) (h : Hd) (S : Sg) : Option (D × List D) := match rg, rdH S h with
  | true, some (.int n) => if n ≤ (LIM : Int) ∧ -(LIM : Int) ≤ n then some (.int n, rangeD n) else none
  | false, some d => (itemsD d).map fun ds => (d, ds)
  | _, _ => none
def stillSrc (rg : Bool) (h : Hd) (d : D) (S : Sg) : Bool := rg || still S d h
inductive Fl where
  | nx | rt (r : Rv) | bk
def forLoop (step : D → Sg → Out Fl) (ok : Sg → Bool) : List D → Sg → Out Fl
  | [], S => .ok .nx S
  | x :: xs, S => (step x S).bind fun fl S' => match fl with
    | .nx => if ok S' then forLoop step ok xs S' else .no
    | .bk => .ok .nx S'
    | .rt r => .ok (.rt r) S'
def whlN (step : Sg → Out (Option Fl)) : Nat → Sg → Out Fl
  | 0, _ => .no
  | n + 1, S => (step S).bind fun o S' => match o with
    | none => whlN step n S'
    | some fl => .ok fl S'
open Classical in
noncomputable def whl (step : Sg → Out (Option Fl)) (S : Sg) : Out Fl :=
  if h : ∃ n, whlN step n S ≠ .no then whlN step (Classical.choose h) S else .no

/-- one turn of a while -/
def whlStep (t : Sg → Out Rv) (b : Sg → Out Fl) (S : Sg) : Out (Option Fl) := (t S).bind fun r S => match r with
  | .val (.bl true) => (b S).bind fun fl S => match fl with
    | .nx => .ok none S
    | .bk => .ok (some .nx) S
    | .rt r => .ok (some (.rt r)) S
  | .val (.bl false) => .ok (some .nx) S
  | _ => .no

mutual
def evX (Φ : Fns) : E → Sg → Out Rv
  | .var i, S => match S.env[i]? with
    | some (.val d) => .ok (.val d) S
    | some (.own m) => .ok (.val m.frz) { S with env := S.env.set i (.val m.frz) }
    | _ => .no
  | .non, S => .ok (.val .non) S
  | .bl b, S => .ok (.val (.bl b)) S
  | .int i, S => .ok (.val (.int i)) S
  | .str s, S => .ok (.val (.str (Str.ofString s))) S
  | .tup es, S => (evL Φ es S).bind fun ds S => .ok (.val (.tup ds)) S
  | .lst es, S => (evL Φ es S).bind fun ds S => .ok (.own (.lst ds)) S
  | .dct0, S => .ok (.own (.dct [] [])) S
  | .bin op a b, S => (hd a (evX Φ a) S).bind fun ha S => (hd b (evX Φ b) S).bind fun hb S => Out.opt ((rdHs S [ha, hb]).bind fun l => match l with
      | [x, y] => binD op x y
      | _ => none) S
  | .neg a, S => (evX Φ a S).bind fun r S => match r.frz with
      | .int i => .ok (.val (.int (-i))) S
      | _ => .no
  | .cmp op a b, S => (hd a (evX Φ a) S).bind fun ha S => (hd b (evX Φ b) S).bind fun hb S => Out.opt ((rdHs S [ha, hb]).bind fun l => match l with
      | [x, y] => (cmpD op x y).map fun c => .val (.bl c)
      | _ => none) S
  | .isN a, S => (hd a (evX Φ a) S).bind fun ha S => Out.opt ((rdH S ha).map fun d => .val (.bl (match d with | .non => true | _ => false))) S
  | .notN a, S => (hd a (evX Φ a) S).bind fun ha S => Out.opt ((rdH S ha).map fun d => .val (.bl (match d with | .non => false | _ => true))) S
  | .isB neg a b, S => (hd a (evX Φ a) S).bind fun ha S => Out.opt ((rdH S ha).map fun d => .val (.bl (match d with | .bl c => (c == b) != neg | _ => neg))) S
  | .chain o1 o2 a b c, S => (hd a (evX Φ a) S).bind fun ha S => (hd b (evX Φ b) S).bind fun hb S => match (rdHs S [ha, hb]).bind fun l => (match l with
      | [x, y] => (cmpD o1 x y).map fun k => (k, y)
      | _ => none) with
      | some (true, .int y) => (hd c (evX Φ c) S).bind fun hc S => Out.opt ((rdH S hc).bind fun z => (cmpD o2 (.int y) z).map fun k => .val (.bl k)) S
      | some (false, _) => .ok (.val (.bl false)) S
      | _ => .no
  | .not a, S => (evX Φ a S).bind fun r S => match r with
      | .val (.bl b) => .ok (.val (.bl (!b))) S
      | _ => .no
  | .truth a, S => (hd a (evX Φ a) S).bind fun ha S => Out.opt (((rdH S ha).bind truthD).map fun k => .val (.bl k)) S
  | .and a b, S => (evX Φ a S).bind fun r S => match r with
      | .val (.bl true) => (evX Φ b S).bind fun r S => match r with
        | .val (.bl k) => .ok (.val (.bl k)) S
        | _ => .no
      | .val (.bl false) => .ok (.val (.bl false)) S
      | _ => .no
  | .or a b, S => (evX Φ a S).bind fun r S => match r with
      | .val (.bl false) => (evX Φ b S).bind fun r S => match r with
        | .val (.bl k) => .ok (.val (.bl k)) S
        | _ => .no
      | .val (.bl true) => .ok (.val (.bl true)) S
      | _ => .no
  | .ife t a b, S => (evX Φ t S).bind fun r S => match r with
      | .val (.bl true) => (evX Φ a S).bind fun r S => .ok (.val r.frz) S
      | .val (.bl false) => (evX Φ b S).bind fun r S => .ok (.val r.frz) S
      | _ => .no
  | .idx a i, S => (hd a (evX Φ a) S).bind fun ha S => (hd i (evX Φ i) S).bind fun hi S => Out.opt ((rdHs S [ha, hi]).bind fun l => match l with
      | [x, y] => (idxD x y).map .val
      | _ => none) S
  | .slc a lo hi, S => (hd a (evX Φ a) S).bind fun ha S => (evO Φ lo S).bind fun l S => (evO Φ hi S).bind fun h S => Out.opt ((rdH S ha).bind fun x => slcV x l h) S
  | .call f es, S => (evL Φ es S).bind fun ds S => callD Φ f ds S
  | .bif f es, S => (evH Φ es S).bind fun hs S => Out.opt ((rdHs S hs).bind (bifD f)) S
  | .isi a t, S => (hd a (evX Φ a) S).bind fun ha S => Out.opt (((rdH S ha).bind fun d => isiD d t).map fun k => .val (.bl k)) S
  | .val e, S => (evX Φ e S).bind fun r S => .ok (.val r.frz) S
  | .mk e, S => (evX Φ e S).bind fun r S => match r with
      | .own m => .ok (.val (.ref S.st.length)) { S with st := S.st ++ [.mo m] }
      | _ => .no
  | .lc vs elt tg rg it cond, S => (hd it (evX Φ it) S).bind fun h S => match srcOf rg h S with
      | none => .no
      | some (d, items) => if notOwn S.env vs && srcOut vs h then
          (lcLoop (lcTurn vs tg (evC Φ cond) (evX Φ elt)) (stillSrc rg h d) items [] S).bind fun acc S' => .ok (.own (.lst acc)) { S' with env := backE S.env S'.env vs }
        else .no
def evL (Φ : Fns) : List E → Sg → Out (List D)
  | [], S => .ok [] S
  | e :: es, S => (evX Φ e S).bind fun r S => (evL Φ es S).bind fun ds S => .ok (r.frz :: ds) S
def evH (Φ : Fns) : List E → Sg → Out (List Hd)
  | [], S => .ok [] S
  | e :: es, S => (hd e (evX Φ e) S).bind fun h S => (evH Φ es S).bind fun hs S => .ok (h :: hs) S
def evO (Φ : Fns) : Option E → Sg → Out (Option Int)
  | none, S => .ok none S
  | some e, S => (evX Φ e S).bind fun r S => match r.frz with
    | .int i => .ok (some i) S
    | _ => .no
def evC (Φ : Fns) : Option E → Option (Sg → Out Rv)
  | none => none
  | some e => some (evX Φ e)
end

def asgTg (env : List Slot) : Tg → Rv → Option (List Slot)
  | .var i, .val d => some (env.set i (.val d))
  | .var i, .own m => some (env.set i (.own m))
  | .tup is, r => setTg env is r.frz
def forTg (S : Sg) (t : Tg) (x : D) : Option Sg := (asgTg S.env t (.val x)).map fun env => { S with env := env }
mutual
noncomputable def evS (Φ : Fns) : St → Sg → Out Fl
  | .asg t e, S => (evX Φ e S).bind fun r S => Out.opt ((asgTg S.env t r).map fun _ => Fl.nx) { S with env := (asgTg S.env t r).getD S.env }
  | .asgR i e, S => (evX Φ e S).bind fun r S => match r with
      | .own m => .ok .nx { env := S.env.set i (.val (.ref S.st.length)), st := S.st ++ [.mo m] }
      | _ => .no
  | .setI a i e, S => (evX Φ e S).bind fun r S => (hd a (evX Φ a) S).bind fun h S => (evX Φ i S).bind fun j S => match (getM S h).bind fun m => setM m j.frz r.frz with
      | some m => .ok .nx (putM S m h)
      | none => .no
  | .aug i e, S => match S.env[i]? with
      | some (.val (.int n)) => (evX Φ e S).bind fun r S => match r.frz with
        | .int k => .ok .nx { S with env := S.env.set i (.val (.int (n + k))) }
        | _ => .no
      | _ => .no
  | .app a e, S => (hd a (evX Φ a) S).bind fun h S => match getM S h with
      | some (.lst _) => (evX Φ e S).bind fun r S => match (getM S h).bind fun m => appM m r.frz with
        | some m => .ok .nx (putM S m h)
        | none => .no
      | _ => .no
  | .expr e, S => (evX Φ e S).bind fun _ S => .ok .nx S
  | .ite t a b, S => (evX Φ t S).bind fun r S => match r with
      | .val (.bl true) => evSs Φ a S
      | .val (.bl false) => evSs Φ b S
      | _ => .no
  | .for_ t rg it body, S => (evX Φ it S).bind fun r S => match srcOf rg (.now r.frz) S with
      | none => .no
      | some (d, items) => forLoop (fun x S => match forTg S t x with
          | some S => evSs Φ body S
          | none => .no) (stillSrc rg (.now r.frz) d) items S
  | .whl t body, S => whl (whlStep (fun S => evX Φ t S) (fun S => evSs Φ body S)) S
  | .ret e, S => match isVar e with
      | some i => match S.env[i]? with
        | some (.val d) => .ok (.rt (.val d)) S
        | some (.own m) => .ok (.rt (.own m)) S
        | _ => .no
      | none => (evX Φ e S).bind fun r S => .ok (.rt r) S
  | .retN, S => .ok (.rt (.val .non)) S
  | .brk, S => .ok .bk S
  | .pass, S => .ok .nx S
noncomputable def evSs (Φ : Fns) : List St → Sg → Out Fl
  | [], S => .ok .nx S
  | s :: ss, S => (evS Φ s S).bind fun fl S => match fl with
    | .nx => evSs Φ ss S
    | .bk => .ok .bk S
    | .rt r => .ok (.rt r) S
end
/-- a def: parameters, slots, body -/
structure Fd where
  ps : Nat
  n : Nat
  body : List St
def startE (n : Nat) (ds : List D) : List Slot := ds.map .val ++ List.replicate (n - ds.length) .no
def ansOf : Out Fl → Ans
  | .ok (.rt r) S => .ret r S.st
  | .ok .nx S => .ret (.val .non) S.st
  | .ok .bk _ => .no
  | .ex x S => .exc x S.st
  | .no => .no
noncomputable def runD (Φ : Fns) (fd : Fd) (ds : List D) (st : List SO) : Ans :=
  if ds.length = fd.ps then ansOf (evSs Φ fd.body ⟨startE fd.n ds, st⟩) else .no
noncomputable def run (T : String → Option Fd) : Nat → Fns
  | 0, _, _, _ => .no
  | k + 1, f, ds, st => match T f with
    | some fd => runD (run T k) fd ds st
    | none => .no
end Tk
namespace Tk
open PySem L2

/-- F: what never changes any more; r: where the store's objects stand -/
structure Gh where
  F : Hp
  r : List Addr
  /-- the law's own argument, where the program's top holds it -/
  Z : Addr → List Int → Prop
structure Base where
  H : Hp
  F : Hp
  r : List Addr
/-- the classes' addresses; what a told error is; what is wanted of an error -/
structure Cls where
  f : String → Option Addr
  Z : Addr → List Int → Prop
structure Ct where
  cl : Cls
  xr : Exc → Value → Option Addr → Gh → Hp → Prop
  W : L2.WX

mutual
inductive RelD (G : Gh) : D → V → Prop
  | non : RelD G .non .non
  | bl (b : Bool) : RelD G (.bl b) (.bl b)
  | int (i : Int) : RelD G (.int i) (.int i)
  | str (x : Str) : RelD G (.str x) (.str x)
  | tup {a : Addr} {ds : List D} {vs : List V} : G.F a = some (.tup vs) → RelDs G ds vs → ds.length ≤ LIM → RelD G (.tup ds) (.ref a)
  | lst {a : Addr} {ds : List D} {vs : List V} : G.F a = some (.lst vs) → RelDs G ds vs → ds.length ≤ LIM → RelD G (.lst ds) (.ref a)
  | dct {a : Addr} {ks : List Int} {ds : List D} {kvs : List (Key × V)} : Rd G.F a (.dK kvs) → kvs.map (·.1) = ks.map Sum.inl → RelDs G ds (kvs.map (·.2)) → ds.length ≤ LIM → RelD G (.dct ks ds) (.ref a)
  | ref {n : Nat} {a : Addr} : G.r[n]? = some a → RelD G (.ref n) (.ref a)
  | scr {a : Addr} {o : Obj} {xs : List Int} : (G.F a = some (.frz o (.lst (xs.map .int))) ∨ G.Z a xs) → RelD G (.scr xs) (.ref a)
inductive RelDs (G : Gh) : List D → List V → Prop
  | nil : RelDs G [] []
  | cons {d : D} {ds : List D} {v : V} {vs : List V} : RelD G d v → RelDs G ds vs → RelDs G (d :: ds) (v :: vs)
end

def Gh.Le (G G' : Gh) : Prop := (∀ a u, G.F a = some u → G'.F a = some u) ∧ G'.Z = G.Z ∧ ∃ t, G'.r = G.r ++ t
theorem Gh.Le.refl (G : Gh) : G.Le G := ⟨fun _ _ h => h, rfl, [], by simp⟩
theorem Gh.Le.trans {G G1 G2 : Gh} (a : G.Le G1) (b : G1.Le G2) : G.Le G2 := by
  obtain ⟨a1, z1, t, e⟩ := a
  obtain ⟨b1, z2, u, e'⟩ := b
  exact ⟨fun x o h => b1 x o (a1 x o h), z2.trans z1, t ++ u, by rw [e', e, List.append_assoc]⟩
theorem Gh.Le.get {G G' : Gh} (h : G.Le G') {n : Nat} {a : Addr} (e : G.r[n]? = some a) : G'.r[n]? = some a := by
  obtain ⟨_, _, t, e'⟩ := h
  rw [e', List.getElem?_append_left (List.getElem?_eq_some_iff.mp e).1]
  exact e

mutual
theorem RelD.mono {G G' : Gh} (h : G.Le G') : ∀ {d : D} {v : V}, RelD G d v → RelD G' d v
  | _, _, .non => .non
  | _, _, .bl b => .bl b
  | _, _, .int i => .int i
  | _, _, .str x => .str x
  | _, _, .tup e r l => .tup (h.1 _ _ e) (RelDs.mono h r) l
  | _, _, .lst e r l => .lst (h.1 _ _ e) (RelDs.mono h r) l
  | _, _, .dct e k r l => .dct (e.imp (h.1 _ _) fun ⟨o, q⟩ => ⟨o, h.1 _ _ q⟩) k (RelDs.mono h r) l
  | _, _, .ref e => .ref (h.get e)
  | _, _, .scr e => .scr (e.imp (h.1 _ _) fun z => by rw [h.2.1]; exact z)
theorem RelDs.mono {G G' : Gh} (h : G.Le G') : ∀ {ds : List D} {vs : List V}, RelDs G ds vs → RelDs G' ds vs
  | _, _, .nil => .nil
  | _, _, .cons a b => .cons (RelD.mono h a) (RelDs.mono h b)
end
theorem RelDs.length {G : Gh} : ∀ {ds : List D} {vs : List V}, RelDs G ds vs → ds.length = vs.length
  | _, _, .nil => rfl
  | _, _, .cons _ b => by simp [RelDs.length b]
theorem RelDs.get {G : Gh} : ∀ {ds : List D} {vs : List V} {i : Nat} {d : D}, RelDs G ds vs → ds[i]? = some d → ∃ v, vs[i]? = some v ∧ RelD G d v
  | _, _, i, d, .nil, h => by simp at h
  | _, _, 0, d, .cons a _, h => by simp at h; subst h; exact ⟨_, rfl, a⟩
  | _, _, i + 1, d, .cons _ b, h => by
    obtain ⟨v, e, r⟩ := RelDs.get (i := i) b (by simpa using h)
    exact ⟨v, by simpa using e, r⟩
theorem RelDs.getV {G : Gh} : ∀ {ds : List D} {vs : List V} {i : Nat} {v : V}, RelDs G ds vs → vs[i]? = some v → ∃ d, ds[i]? = some d ∧ RelD G d v
  | _, _, i, d, .nil, h => by simp at h
  | _, _, 0, d, .cons a _, h => by simp at h; subst h; exact ⟨_, rfl, a⟩
  | _, _, i + 1, d, .cons _ b, h => by
    obtain ⟨v, e, r⟩ := RelDs.getV (i := i) b (by simpa using h)
    exact ⟨v, by simpa using e, r⟩
theorem RelDs.append {G : Gh} : ∀ {ds es : List D} {vs us : List V}, RelDs G ds vs → RelDs G es us → RelDs G (ds ++ es) (vs ++ us)
  | _, _, _, _, .nil, h => h
  | _, _, _, _, .cons a b, h => .cons a (RelDs.append b h)
theorem RelDs.drop {G : Gh} : ∀ {ds : List D} {vs : List V} (n : Nat), RelDs G ds vs → RelDs G (ds.drop n) (vs.drop n)
  | _, _, 0, h => h
  | _, _, _ + 1, .nil => .nil
  | _, _, n + 1, .cons _ b => RelDs.drop n b
theorem RelDs.take {G : Gh} : ∀ {ds : List D} {vs : List V} (n : Nat), RelDs G ds vs → RelDs G (ds.take n) (vs.take n)
  | _, _, 0, _ => .nil
  | _, _, _ + 1, .nil => .nil
  | _, _, n + 1, .cons a b => .cons a (RelDs.take n b)
theorem RelDs.set {G : Gh} {d : D} {v : V} (r : RelD G d v) : ∀ {ds : List D} {vs : List V} (n : Nat), RelDs G ds vs → RelDs G (ds.set n d) (vs.set n v)
  | _, _, _, .nil => .nil
  | _, _, 0, .cons _ b => .cons r b
  | _, _, n + 1, .cons a b => .cons a (RelDs.set r n b)
theorem RelDs.ints {G : Gh} : ∀ (ns : List Int), RelDs G (ns.map .int) (ns.map .int)
  | [] => .nil
  | n :: ns => .cons (.int n) (RelDs.ints ns)
theorem RelDs.of_get {G : Gh} : ∀ {ds : List D} {vs : List V}, ds.length = vs.length → (∀ (i : Nat) (d : D) (v : V), ds[i]? = some d → vs[i]? = some v → RelD G d v) → RelDs G ds vs
  | [], [], _, _ => .nil
  | [], _ :: _, e, _ => by simp at e
  | _ :: _, [], e, _ => by simp at e
  | d :: ds, v :: vs, e, h => .cons (h 0 d v rfl rfl) (RelDs.of_get (by simpa using e) fun i d v h1 h2 => h (i + 1) d v (by simpa using h1) (by simpa using h2))

def RelMO (G : Gh) : MO → HO → Prop
  | .lst ds, .lst vs => RelDs G ds vs ∧ ds.length ≤ LIM
  | .dct ks ds, .dK kvs => kvs.map (·.1) = ks.map Sum.inl ∧ RelDs G ds (kvs.map (·.2)) ∧ ds.length ≤ LIM
  | _, _ => False
theorem RelMO.mono {G G' : Gh} (h : G.Le G') {m : MO} {o : HO} (r : RelMO G m o) : RelMO G' m o := by
  cases m with
  | lst ds => cases o <;> simp only [RelMO] at r ⊢; exact ⟨r.1.mono h, r.2⟩
  | dct ks ds => cases o <;> simp only [RelMO] at r ⊢; exact ⟨r.1, r.2.1.mono h, r.2.2⟩
def RelFs (G : Gh) (fs : List (String × D)) (gs : List (Str × V)) : Prop :=
  gs.map (·.1) = fs.map (fun p => Str.ofString p.1) ∧ RelDs G (fs.map (·.2)) (gs.map (·.2))
def RelSO (cl : Cls) (G : Gh) (H : Hp) (a : Addr) : SO → Prop
  | .mo m => ∃ o, H a = some o ∧ RelMO G m o
  | .ins c fs => ∃ Ca dx gs, H a = some (.ins Ca dx gs) ∧ cl.f c = some Ca ∧ RelFs G fs gs
theorem RelSO.mono {cl : Cls} {G G' : Gh} {H : Hp} {a : Addr} (h : G.Le G') {o : SO} (r : RelSO cl G H a o) : RelSO cl G' H a o := by
  cases o with
  | mo m => obtain ⟨o, e, r⟩ := r; exact ⟨o, e, r.mono h⟩
  | ins c fs => obtain ⟨x, y, z, e, f, g1, g2⟩ := r; exact ⟨x, y, z, e, f, g1, g2.mono h⟩
theorem RelSO.some {cl : Cls} {G : Gh} {H : Hp} {a : Addr} {o : SO} (r : RelSO cl G H a o) : ∃ u, H a = some u := by
  cases o with
  | mo m => obtain ⟨o, e, r⟩ := r; exact ⟨o, e⟩
  | ins c fs => obtain ⟨x, y, z, e, _⟩ := r; exact ⟨_, e⟩
theorem RelSO.heap {cl : Cls} {G : Gh} {H H' : Hp} {a : Addr} (h : H' a = H a) {o : SO} (r : RelSO cl G H a o) : RelSO cl G H' a o := by
  cases o with
  | mo m => obtain ⟨o, e, r⟩ := r; exact ⟨o, h.trans e, r⟩
  | ins c fs => obtain ⟨x, y, z, e, r⟩ := r; exact ⟨x, y, z, h.trans e, r⟩

/-- the heap: B stood at the entry, G says what never changes and where the store's objects are -/
structure RH (cl : Cls) (B : Base) (G : Gh) (st : List SO) (H : Hp) : Prop where
  fr : ∀ a o, B.H a = some o → a ∉ B.r → H a = some o
  fh : ∀ a u, G.F a = some u → H a = some u
  fe : ∀ a u, G.F a = some u → B.F a = some u ∨ B.H a = none
  bf : ∀ a u, B.F a = some u → G.F a = some u
  hz : G.Z = cl.Z
  re : ∃ t, G.r = B.r ++ t ∧ ∀ a ∈ t, B.H a = none
  nd : G.r.Nodup
  rf : ∀ a ∈ G.r, G.F a = none
  len : st.length = G.r.length
  sto : ∀ (n : Nat) (o : SO), st[n]? = some o → ∃ a, G.r[n]? = some a ∧ RelSO cl G H a o
structure RSl (B : Base) (G : Gh) (H : Hp) (env : List Slot) (σ : L2.St) : Prop where
  val : ∀ (i : Nat) (d : D), env[i]? = some (.val d) → ∃ v, σ[i]? = some (some v) ∧ RelD G d v
  own : ∀ (i : Nat) (m : MO), env[i]? = some (.own m) → ∃ a o, σ[i]? = some (some (.ref a)) ∧ H a = some o ∧ RelMO G m o ∧ G.F a = none ∧ a ∉ G.r ∧ B.H a = none
  sep : ∀ (i j : Nat) (m m' : MO) (a : Addr), env[i]? = some (.own m) → env[j]? = some (.own m') → σ[i]? = some (some (.ref a)) → σ[j]? = some (some (.ref a)) → i = j
  len : env.length = σ.length
structure RR (cl : Cls) (B : Base) (G : Gh) (S : Sg) (σ : L2.St) (H : Hp) : Prop where
  h : RH cl B G S.st H
  s : RSl B G H S.env σ

def RelRv (B : Base) (G : Gh) (H : Hp) (env : List Slot) (σ : L2.St) : Rv → V → Prop
  | .val d, v => RelD G d v
  | .own m, v => ∃ a o, v = .ref a ∧ H a = some o ∧ RelMO G m o ∧ G.F a = none ∧ a ∉ G.r ∧ B.H a = none ∧ ∀ (i : Nat) (m' : MO), env[i]? = some (.own m') → σ[i]? ≠ some (some (.ref a))

section
variable {cl : Cls} {B : Base} {G : Gh} {S : Sg} {σ : L2.St} {H : Hp} {st : List SO} {a p : Addr} {o : HO}

theorem RH.at (R : RH cl B G st H) {u : HO} (h : G.F a = some u) : H a = some u := R.fh a u h
theorem RH.mem (R : RH cl B G st H) (h : a ∈ G.r) : ∃ o, H a = some o := by
  obtain ⟨n, hn, e⟩ := List.getElem_of_mem h
  have h1 : n < st.length := by rw [R.len]; exact hn
  obtain ⟨b, hb, r⟩ := R.sto n _ (List.getElem?_eq_getElem h1)
  rw [List.getElem?_eq_getElem hn, e] at hb
  cases hb
  exact r.some
theorem RH.newB (R : RH cl B G st H) (h : H p = none) : B.H p = none := by
  cases e : B.H p with
  | none => rfl
  | some o =>
    by_cases hp : p ∈ B.r
    · obtain ⟨t, e1, _⟩ := R.re
      obtain ⟨o', e2⟩ := R.mem (a := p) (by rw [e1]; exact List.mem_append_left _ hp)
      rw [h] at e2; cases e2
    · rw [R.fr p o e hp] at h; cases h
theorem RH.newF (R : RH cl B G st H) (h : H p = none) : G.F p = none := by
  cases e : G.F p with
  | none => rfl
  | some u =>
    have e1 := R.fh p u e
    rw [h] at e1; cases e1
theorem RH.newR (R : RH cl B G st H) (h : H p = none) : p ∉ G.r := fun hp => by
  obtain ⟨o, e⟩ := R.mem hp
  rw [h] at e; cases e
/-- a new object -/
theorem RH.new (R : RH cl B G st H) (h : H p = none) : RH cl B G st (upd H p o) where
  fr := fun a o e n => by rw [upd_ne (fun z => by subst z; rw [R.newB h] at e; cases e)]; exact R.fr a o e n
  fh := fun a u e => by rw [upd_ne (fun z => by subst z; rw [R.newF h] at e; cases e)]; exact R.fh a u e
  fe := R.fe
  bf := R.bf
  hz := R.hz
  re := R.re
  nd := R.nd
  rf := R.rf
  len := R.len
  sto := fun (n : Nat) (o : SO) e => by
    obtain ⟨a, e1, r⟩ := R.sto n o e
    refine ⟨a, e1, r.heap (upd_ne fun z => ?_)⟩
    subst z
    exact R.newR h (List.mem_of_getElem? e1)
theorem RSl.new (R : RH cl B G st H) (Q : RSl B G H S.env σ) (h : H p = none) : RSl B G (upd H p o) S.env σ where
  val := Q.val
  own := fun i m e => by
    obtain ⟨a, u, e1, e2, r⟩ := Q.own i m e
    exact ⟨a, u, e1, by rw [upd_ne (ne_of_none e2 h)]; exact e2, r⟩
  sep := Q.sep
  len := Q.len
theorem RR.new (R : RR cl B G S σ H) (h : H p = none) : RR cl B G S σ (upd H p o) := ⟨R.h.new h, R.s.new R.h h⟩

/-- p never changes any more -/
def Gh.add (G : Gh) (p : Addr) (u : HO) : Gh := { G with F := upd G.F p u }
theorem Gh.add_le (h : G.F p = none) (u : HO) : G.Le (G.add p u) := ⟨fun a o e => by
  show upd G.F p u a = some o
  rw [upd_ne (ne_of_none e h)]; exact e, rfl, [], by simp [Gh.add]⟩
theorem RH.add (R : RH cl B G st H) {u : HO} (h : H p = some u) (hf : G.F p = none) (hr : p ∉ G.r) (hb : B.H p = none) : RH cl B (G.add p u) st H where
  fr := R.fr
  fh := fun a v e => by
    by_cases q : a = p
    · subst q
      have e' : upd G.F a u a = some v := e
      rw [upd_same] at e'; cases e'; exact h
    · have e' : upd G.F p u a = some v := e
      rw [upd_ne q] at e'; exact R.fh a v e'
  fe := fun a v e => by
    by_cases q : a = p
    · subst q; exact .inr hb
    · have e' : upd G.F p u a = some v := e
      rw [upd_ne q] at e'; exact R.fe a v e'
  bf := fun a v e => by
    show upd G.F p u a = some v
    rw [upd_ne (fun q => by subst q; rw [R.bf _ _ e] at hf; cases hf)]; exact R.bf a v e
  hz := R.hz
  re := R.re
  nd := R.nd
  rf := fun a ha => by
    show upd G.F p u a = none
    rw [upd_ne (fun q => by subst q; exact hr ha)]; exact R.rf a ha
  len := R.len
  sto := fun (n : Nat) (o : SO) e => by
    obtain ⟨a, e1, r⟩ := R.sto n o e
    exact ⟨a, e1, r.mono (Gh.add_le hf u)⟩
theorem RSl.add (Q : RSl B G H S.env σ) {u : HO} (hf : G.F p = none) (ho : ∀ (i : Nat) (m : MO), S.env[i]? = some (.own m) → σ[i]? ≠ some (some (.ref p))) : RSl B (G.add p u) H S.env σ where
  val := fun i d e => by
    obtain ⟨v, e1, r⟩ := Q.val i d e
    exact ⟨v, e1, r.mono (Gh.add_le hf u)⟩
  own := fun i m e => by
    obtain ⟨a, o, e1, e2, r, f1, f2⟩ := Q.own i m e
    refine ⟨a, o, e1, e2, r.mono (Gh.add_le hf u), ?_, f2⟩
    show upd G.F p u a = none
    rw [upd_ne (fun q => by subst q; exact ho i m e e1)]; exact f1
  sep := Q.sep
  len := Q.len
theorem RR.add (R : RR cl B G S σ H) {u : HO} (h : H p = some u) (hf : G.F p = none) (hr : p ∉ G.r) (hb : B.H p = none) (ho : ∀ (i : Nat) (m : MO), S.env[i]? = some (.own m) → σ[i]? ≠ some (some (.ref p))) :
    RR cl B (G.add p u) S σ H := ⟨R.h.add h hf hr hb, R.s.add hf ho⟩
theorem RR.fresh (R : RR cl B G S σ H) (h : H p = none) : ∀ (i : Nat) (m : MO), S.env[i]? = some (.own m) → σ[i]? ≠ some (some (.ref p)) := fun i m e z => by
  obtain ⟨a, o, e1, e2, _⟩ := R.s.own i m e
  rw [z] at e1; cases e1
  rw [h] at e2; cases e2
/-- a new tuple -/
theorem RR.tup (R : RR cl B G S σ H) (h : H p = none) {ds : List D} {vs : List V} (r : RelDs G ds vs) (l : ds.length ≤ LIM) :
    G.Le (G.add p (.tup vs)) ∧ RR cl B (G.add p (.tup vs)) S σ (upd H p (.tup vs)) ∧ RelD (G.add p (.tup vs)) (.tup ds) (.ref p) := by
  have hf := R.h.newF h
  refine ⟨Gh.add_le hf _, (R.new h).add upd_same hf (R.h.newR h) (R.h.newB h) (R.fresh h), .tup (show upd G.F p (.tup vs) p = _ from upd_same) (r.mono (Gh.add_le hf _)) l⟩
/-- a new list or dict that nobody holds yet -/
theorem RR.own (R : RR cl B G S σ H) (h : H p = none) {m : MO} (r : RelMO G m o) : RR cl B G S σ (upd H p o) ∧ RelRv B G (upd H p o) S.env σ (.own m) (.ref p) :=
  ⟨R.new h, p, o, rfl, upd_same, r, R.h.newF h, R.h.newR h, R.h.newB h, R.fresh h⟩

theorem RelMO.frz {m : MO} (r : RelMO G m o) (e : G.F a = some o) : RelD G m.frz (.ref a) := by
  cases m with
  | lst ds => cases o <;> simp only [RelMO] at r; exact .lst e r.1 r.2
  | dct ks ds => cases o <;> simp only [RelMO] at r; exact .dct (.inl e) r.1 r.2.1 r.2.2
/-- a result as a value that never changes any more -/
theorem RR.freeze (R : RR cl B G S σ H) {r : Rv} {v : V} (h : RelRv B G H S.env σ r v) : ∃ G', G.Le G' ∧ RR cl B G' S σ H ∧ RelD G' r.frz v := by
  cases r with
  | val d => exact ⟨G, .refl G, R, h⟩
  | own m =>
    obtain ⟨a, o, rfl, e, r, hf, hr, hb, ho⟩ := h
    refine ⟨G.add a o, Gh.add_le hf o, R.add e hf hr hb ho, (r.mono (Gh.add_le hf o)).frz (show upd G.F a o a = _ from upd_same)⟩
end
end Tk
namespace Tk
open PySem L2

def Aft {α : Type} (C : Ct) (B : Base) (G : Gh) (σ : L2.St) (o : Out α) (K : α → Gh → Sg → Hp → Prop) : Prop := match o with
  | .ok a S => ∀ G' H, G.Le G' → RR C.cl B G' S σ H → K a G' S H
  | .ex x S => ∀ G' H cls d, G.Le G' → RR C.cl B G' S σ H → C.xr x cls d G' H → C.W cls d σ H
  | .no => False
section
variable {C : Ct} {B : Base} {G G1 : Gh} {S : Sg} {σ : L2.St} {H : Hp} {α β : Type} {o : Out α}
theorem Aft.up {K : α → Gh → Sg → Hp → Prop} (h : Aft C B G σ o K) (l : G.Le G1) : Aft C B G1 σ o K := by
  cases o with
  | ok a S => exact fun G' H l' => h G' H (l.trans l')
  | ex x S => exact fun G' H c d l' => h G' H c d (l.trans l')
  | no => exact h
theorem Aft.mono {K K' : α → Gh → Sg → Hp → Prop} (h : Aft C B G σ o K) (f : ∀ a G' S' H', G.Le G' → RR C.cl B G' S' σ H' → K a G' S' H' → K' a G' S' H') : Aft C B G σ o K' := by
  cases o with
  | ok a S => exact fun G' H l R => f a G' S H l R (h G' H l R)
  | ex x S => exact h
  | no => exact h
theorem Aft.bind {f : α → Sg → Out β} {K : β → Gh → Sg → Hp → Prop} (h : Aft C B G σ (o.bind f) K) : Aft C B G σ o fun a G' S' H' => Aft C B G' σ (f a S') K := by
  cases o with
  | ok a S => exact fun G' H l R => Aft.up h l
  | ex x S => exact h
  | no => exact h
theorem Aft.opt {x : Option α} {K : α → Gh → Sg → Hp → Prop} (h : Aft C B G σ (Out.opt x S) K) : ∃ a, x = some a ∧ ∀ G' H, G.Le G' → RR C.cl B G' S σ H → K a G' S H := by
  cases x with
  | some a => exact ⟨a, rfl, h⟩
  | none => exact h.elim
theorem Aft.ok {a : α} {K : α → Gh → Sg → Hp → Prop} (h : Aft C B G σ (.ok a S) K) : ∀ G' H, G.Le G' → RR C.cl B G' S σ H → K a G' S H := h
end

/-- the reading of an expression -/
def tX (C : Ct) (Φ : Fns) (c : E) : TE := fun σ H Q => ∃ B G S, RR C.cl B G S σ H ∧ Aft C B G σ (evX Φ c S) fun r G' S' H' => ∀ v, RelRv B G' H' S'.env σ r v → Q v H'
/-- .. of an operand: a name is only looked up -/
def tH (C : Ct) (Φ : Fns) (c : E) : TE := match c with
  | .var i => tVar i
  | c => tX C Φ c
/-- .. of arguments -/
def tL (C : Ct) (Φ : Fns) (es : List E) : TA := fun σ H Q => ∃ B G S, RR C.cl B G S σ H ∧ Aft C B G σ (evL Φ es S) fun ds G' S' H' => ∀ vs, RelDs G' ds vs → Q vs H'

def RelHd (G : Gh) (σ : L2.St) : Hd → V → Prop
  | .now d, v => RelD G d v
  | .slot i, v => σ[i]? = some (some v)
theorem RelHd.mono {G G' : Gh} (l : G.Le G') {σ : L2.St} {h : Hd} {v : V} (r : RelHd G σ h v) : RelHd G' σ h v := by
  cases h with
  | now d => exact RelD.mono l r
  | slot i => exact r
/-- what is read now -/
def RelN (G : Gh) (H : Hp) (d : D) (v : V) : Prop := RelD G d v ∨ ∃ a o m, v = .ref a ∧ d = MO.frz m ∧ H a = some o ∧ RelMO G m o

theorem imp {X : Cx} {e : Expr} {t t' : TE} (h : PE X e t) (f : ∀ σ H Q, t' σ H Q → t σ H Q) : PE X e t' := ⟨fun pins s σ H Q I q => h.run pins s σ H Q I (f σ H Q q)⟩
theorem impT {X : Cx} {e : Expr} {t t' : TT} (h : PT X e t) (f : ∀ σ H Q, t' σ H Q → t σ H Q) : PT X e t' := ⟨fun pins s σ H Q I q => h.run pins s σ H Q I (f σ H Q q)⟩
theorem impA {X : Cx} {e : List Expr} {t t' : TA} (h : PA X e t) (f : ∀ σ H Q, t' σ H Q → t σ H Q) : PA X e t' := ⟨fun p pins s σ H Q I q => h.run p pins s σ H Q I (f σ H Q q)⟩
theorem impS {X : Cx} {e : Stmt} {t t' : TS} (h : PS X e t) (f : ∀ D σ H, t' D σ H → t D σ H) : PS X e t' := ⟨fun pins s σ H D I q => h.run pins s σ H D I (f D σ H q)⟩

section
variable {C : Ct} {Φ : Fns} {B : Base} {G : Gh} {S : Sg} {σ : L2.St} {H : Hp} {K : PySem.W.Frag}
/-- the operand's value -/
theorem hd_go {a : E} {K : Hd → Gh → Sg → Hp → Prop} (R : RR C.cl B G S σ H) (h : Aft C B G σ (hd a (evX Φ a) S) K) :
    tH C Φ a σ H fun v H' => ∃ h G' S', G.Le G' ∧ RR C.cl B G' S' σ H' ∧ RelHd G' σ h v ∧ K h G' S' H' := by
  cases a with
  | var i =>
    simp only [hd] at h
    split at h
    · rename_i d q
      obtain ⟨v, e1, _⟩ := R.s.val i d q
      exact ⟨v, e1, .slot i, G, S, .refl G, R, e1, Aft.ok h G H (.refl G) R⟩
    · rename_i m q
      obtain ⟨a, o, e1, _⟩ := R.s.own i m q
      exact ⟨_, e1, .slot i, G, S, .refl G, R, e1, Aft.ok h G H (.refl G) R⟩
    · exact h.elim
  | _ =>
    refine ⟨B, G, S, R, (Aft.bind (o := evX Φ _ S) (f := fun r S' => Out.ok (Hd.now r.frz) S') h).mono fun r G1 S1 H1 l1 R1 q v rv => ?_⟩
    obtain ⟨G2, l2, R2, rd⟩ := R1.freeze rv
    exact ⟨.now r.frz, G2, S1, l1.trans l2, R2, rd, Aft.ok q G2 H1 l2 R2⟩
/-- the reading of an operand grows with what is wanted -/
theorem tX.mono {c : E} {Q Q' : VK} (h : tX C Φ c σ H Q) (f : ∀ v H', Q v H' → Q' v H') : tX C Φ c σ H Q' := by
  obtain ⟨B, G, S, R, q⟩ := h
  exact ⟨B, G, S, R, q.mono fun r G' S' H' _ _ k v rv => f v H' (k v rv)⟩
theorem tH.mono {c : E} {Q Q' : VK} (h : tH C Φ c σ H Q) (f : ∀ v H', Q v H' → Q' v H') : tH C Φ c σ H Q' := by
  cases c with
  | var i => obtain ⟨v, e, q⟩ := h; exact ⟨v, e, f v H q⟩
  | _ => exact tX.mono h f
theorem derefD_rel (R : RR C.cl B G S σ H) {d d' : D} {v : V} (r : RelD G d v) (h : derefD S.st d = some d') : RelN G H d' v := by
  cases d with
  | ref n =>
    simp only [derefD] at h
    cases r with
    | ref e =>
      rename_i a
      split at h
      · rename_i m q
        cases h
        obtain ⟨b, e1, o, e2, r2⟩ := R.h.sto n _ q
        rw [e] at e1; cases e1
        exact .inr ⟨_, o, m, rfl, rfl, e2, r2⟩
      · cases h; exact .inl (.ref e)
      · cases h
  | _ => simp only [derefD] at h; cases h; exact .inl r
theorem rdH_rel (R : RR C.cl B G S σ H) {h : Hd} {d : D} {v : V} (r : RelHd G σ h v) (e : rdH S h = some d) : RelN G H d v := by
  cases h with
  | now d' => exact derefD_rel R r e
  | slot i =>
    simp only [rdH] at e
    split at e
    · rename_i d' q
      obtain ⟨v', e1, r1⟩ := R.s.val i d' q
      have r' : σ[i]? = some (some v) := r
      rw [r'] at e1; cases e1
      exact derefD_rel R r1 e
    · rename_i m q
      cases e
      obtain ⟨a, o, e1, e2, r1, _⟩ := R.s.own i m q
      have r' : σ[i]? = some (some v) := r
      rw [r'] at e1; cases e1
      exact .inr ⟨a, o, m, rfl, rfl, e2, r1⟩
    · cases e
theorem rdHs2 {h1 h2 : Hd} {β : Type} {f : List D → Option β} {b : β} (e : (rdHs S [h1, h2]).bind f = some b) : ∃ d1 d2, rdH S h1 = some d1 ∧ rdH S h2 = some d2 ∧ f [d1, d2] = some b := by
  simp only [rdHs] at e
  cases q1 : rdH S h1 with
  | none => rw [q1] at e; simp at e
  | some d1 =>
    cases q2 : rdH S h2 with
    | none => rw [q1, q2] at e; simp at e
    | some d2 => rw [q1, q2] at e; exact ⟨d1, d2, rfl, rfl, e⟩

theorem RelN.int {i : Int} {v : V} (r : RelN G H (.int i) v) : v = .int i := by
  rcases r with r | ⟨a, o, m, _, e, _⟩
  · cases r; rfl
  · cases m <;> cases e
theorem RelN.bl {b : Bool} {v : V} (r : RelN G H (.bl b) v) : v = .bl b := by
  rcases r with r | ⟨a, o, m, _, e, _⟩
  · cases r; rfl
  · cases m <;> cases e
theorem RelN.non {v : V} (r : RelN G H .non v) : v = .non := by
  rcases r with r | ⟨a, o, m, _, e, _⟩
  · cases r; rfl
  · cases m <;> cases e
theorem RelN.str {x : Str} {v : V} (r : RelN G H (.str x) v) : v = .str x := by
  rcases r with r | ⟨a, o, m, _, e, _⟩
  · cases r; rfl
  · cases m <;> cases e
theorem RelN.tup {st : List SO} (R : RH C.cl B G st H) {ds : List D} {v : V} (r : RelN G H (.tup ds) v) : ∃ a vs, v = .ref a ∧ G.F a = some (.tup vs) ∧ H a = some (.tup vs) ∧ RelDs G ds vs ∧ ds.length ≤ LIM := by
  rcases r with r | ⟨a, o, m, _, e, _⟩
  · cases r with
    | tup e r l => exact ⟨_, _, rfl, e, R.at e, r, l⟩
  · cases m <;> cases e
theorem RelN.lst {st : List SO} (R : RH C.cl B G st H) {ds : List D} {v : V} (r : RelN G H (.lst ds) v) : ∃ a vs, v = .ref a ∧ H a = some (.lst vs) ∧ RelDs G ds vs ∧ ds.length ≤ LIM := by
  rcases r with r | ⟨a, o, m, rfl, e, e2, r⟩
  · cases r with
    | lst e r l => exact ⟨_, _, rfl, R.at e, r, l⟩
  · cases m with
    | lst es =>
      cases e
      cases o <;> simp only [RelMO] at r
      exact ⟨a, _, rfl, e2, r.1, r.2⟩
    | dct ks vs => cases e
theorem RelN.scr {st : List SO} (R : RH C.cl B G st H) {xs : List Int} {v : V} (r : RelN G H (.scr xs) v) : ∃ a, v = .ref a ∧ ((∃ o, H a = some (.frz o (.lst (xs.map .int)))) ∨ C.cl.Z a xs) := by
  rcases r with r | ⟨a, o, m, rfl, e, e2, r⟩
  · cases r with
    | scr e => exact ⟨_, rfl, e.imp (fun q => ⟨_, R.at q⟩) fun z => by rw [← R.hz]; exact z⟩
  · cases m <;> cases e
theorem RelN.dct {st : List SO} (R : RH C.cl B G st H) {ks : List Int} {ds : List D} {v : V} (r : RelN G H (.dct ks ds) v) : ∃ a kvs, v = .ref a ∧ Rd H a (.dK kvs) ∧ kvs.map (·.1) = ks.map Sum.inl ∧ RelDs G ds (kvs.map (·.2)) ∧ ds.length ≤ LIM := by
  rcases r with r | ⟨a, o, m, rfl, e, e2, r⟩
  · cases r with
    | dct e k r l => exact ⟨_, _, rfl, e.imp (R.fh _ _) fun ⟨o, q⟩ => ⟨o, R.fh _ _ q⟩, k, r, l⟩
  · cases m with
    | lst es => cases e
    | dct ks' vs =>
      cases e
      cases o <;> simp only [RelMO] at r
      exact ⟨a, _, rfl, .inl e2, r.1, r.2.1, r.2.2⟩
end
end Tk
namespace Tk
open PySem L2

theorem LIM_le : LIM ≤ sizeLine := by rw [sizeLine_eq]; decide
theorem lim_le {n : Nat} (h : n ≤ LIM) : n ≤ sizeLine := Nat.le_trans h LIM_le

section
variable {cl : Cls} {B : Base} {G : Gh} {st : List SO} {H : Hp} {K : PySem.W.Frag}
mutual
theorem RelD.dp (R : RH cl B G st H) : ∀ {d : D} {v : V} {p : PyData}, RelD G d v → D.py d = some p → Dp K H v p
  | _, _, _, .non, e => by simp only [D.py] at e; cases e; exact .non
  | _, _, _, .bl b, e => by simp only [D.py] at e; cases e; exact .bl b
  | _, _, _, .int i, e => by simp only [D.py] at e; cases e; exact .int i
  | _, _, _, .str x, e => by simp only [D.py] at e; cases e; exact .str x
  | .tup ds, _, p, .tup h r l, e => by
    simp only [D.py] at e
    cases q : D.pys ds with
    | none => rw [q] at e; cases e
    | some ps =>
      rw [q] at e; cases e
      exact .tup (SqT.of (R.at h)) (RelDs.dp R r q)
  | .lst ds, _, p, .lst h r l, e => by
    simp only [D.py] at e
    cases q : D.pys ds with
    | none => rw [q] at e; cases e
    | some ps =>
      rw [q] at e; cases e
      exact .lst (SqL.of (R.at h)) (RelDs.dp R r q)
  | _, _, _, .dct _ _ _ _, e => by simp only [D.py] at e; cases e
  | _, _, _, .ref _, e => by simp only [D.py] at e; cases e
  | _, _, _, .scr _, e => by simp only [D.py] at e; cases e
theorem RelDs.dp (R : RH cl B G st H) : ∀ {ds : List D} {vs : List V} {ps : List PyData}, RelDs G ds vs → D.pys ds = some ps → DpAll K H vs ps
  | _, _, _, .nil, e => by simp only [D.pys] at e; cases e; exact .nil
  | d :: ds, _, ps, .cons a b, e => by
    simp only [D.pys] at e
    cases q1 : D.py d with
    | none => rw [q1] at e; simp at e
    | some p =>
      cases q2 : D.pys ds with
      | none => rw [q1, q2] at e; simp at e
      | some qs => rw [q1, q2] at e; cases e; exact .cons (RelD.dp R a q1) (RelDs.dp R b q2)
end
theorem RelN.dp (R : RH cl B G st H) {d : D} {v : V} {p : PyData} (r : RelN G H d v) (e : D.py d = some p) : Dp K H v p := by
  rcases r with r | ⟨a, o, m, rfl, rfl, e2, r⟩
  · exact r.dp R e
  · cases m with
    | lst ds =>
      cases o <;> simp only [RelMO] at r
      simp only [MO.frz_lst, D.py] at e
      cases q : D.pys ds with
      | none => rw [q] at e; cases e
      | some ps =>
        rw [q] at e; cases e
        exact .lst (SqL.of e2) (RelDs.dp R r.1 q)
    | dct ks vs => simp only [MO.frz_dct, D.py] at e; cases e
theorem plain_py {d : D} (h : d.plain = true) : D.py d = some (pyD d) ∧ SeqAt.shaped (pyD d) = true := by
  unfold D.plain at h
  cases q : D.py d with
  | none => rw [q] at h; cases h
  | some p => rw [q] at h; unfold pyD; rw [q]; exact ⟨rfl, h⟩
end

theorem OpR.or {X : Cx} {f : Value → Value → Sem Value} {r r' : R2} (h : OpR X f r) (h' : OpR X f r') : OpR X f (fun x y H Q => r x y H Q ∨ r' x y H Q) := by
  intro pins s σ H x y v u Q I rx ry q
  rcases q with q | q
  · exact h pins s σ H x y v u Q I rx ry q
  · exact h' pins s σ H x y v u Q I rx ry q

def bopOf : Bop → Operator
  | .add => .Add | .sub => .Sub | .mul => .Mult | .mod => .Mod | .fdiv => .FloorDiv | .pow => .Pow
def rAddS : R2 := fun x y H Q => ∃ i j, x = .str i ∧ y = .str j ∧ i.length + j.length ≤ sizeLine ∧ Q (.str (i ++ j)) H
def rBin (K : PySem.W.Frag) : Bop → R2
  | .add => fun x y H Q => rI0 (fun i j => .int (i + j)) x y H Q ∨ (rAddS x y H Q ∨ (rCatA K x y H Q ∨ rCat x y H Q))
  | .sub => rI0 fun i j => .int (i - j)
  | .mul => fun x y H Q => rI CMul (fun i j => .int (i * j)) x y H Q ∨ rRep x y H Q
  | .mod => rI (fun _ j => j ≠ 0) fun i j => .int (i.fmod j)
  | .fdiv => rI CDivN fun i j => .int (i.fdiv j)
  | .pow => rI CPow fun i j => .int (i ^ j.toNat)
theorem opr_bin {X : Cx} : ∀ op : Bop, OpR X (binaryOp (bopOf op)) (rBin X.K op)
  | .add => op_add.or (op_add_str.or (op_catA.or op_cat))
  | .sub => op_sub
  | .mul => op_mul.or op_rep
  | .mod => op_modN
  | .fdiv => op_fdivN
  | .pow => op_pow

section
variable {C : Ct} {B : Base} {G : Gh} {S : Sg} {σ : L2.St} {H : Hp} {K : PySem.W.Frag}
theorem RelDs.flat {vs : List V} {ds : List D} (r : RelDs G ds vs) : ∀ k : Nat, RelDs G (List.replicate k ds).flatten (List.replicate k vs).flatten
  | 0 => .nil
  | k + 1 => by
    rw [List.replicate_succ, List.replicate_succ, List.flatten_cons, List.flatten_cons]
    exact r.append (RelDs.flat r k)
theorem RelDs.nil_iff {vs : List V} {ds : List D} (r : RelDs G ds vs) : vs = [] ↔ ds = [] := by
  cases r <;> simp

theorem bin_go {op : Bop} {x y : D} {v u : V} {r : Rv} {Q : VK} (R : RR C.cl B G S σ H) (rx : RelN G H x v) (ry : RelN G H y u) (e : binD op x y = some r)
    (k : ∀ G' H', G.Le G' → RR C.cl B G' S σ H' → ∀ w, RelRv B G' H' S.env σ r w → Q w H') : rBin K op v u H Q := by
  unfold binD at e
  split at e
  · cases e; cases rx.int; cases ry.int
    exact .inl ⟨_, _, rfl, rfl, k G H (.refl G) R _ (.int _)⟩
  · split at e
    · rename_i h; cases e; cases rx.str; cases ry.str
      exact .inr (.inl ⟨_, _, rfl, rfl, lim_le h, k G H (.refl G) R _ (.str _)⟩)
    · cases e
  · split at e
    · rename_i xs ys h
      cases e
      obtain ⟨a, vs, rfl, f1, h1, r1, l1⟩ := rx.tup R.h
      obtain ⟨b, us, rfl, f2, h2, r2, l2⟩ := ry.tup R.h
      refine .inr (.inr (.inl ⟨a, b, vs, us, rfl, rfl, SqT.of h1, SqT.of h2, by rw [← r1.length, ← r2.length]; exact lim_le h, fun z => ?_, fun z1 z2 => ?_, fun z1 z2 p hp => ?_⟩))
      · rw [r1.nil_iff] at z; subst z
        exact k G H (.refl G) R _ (.tup f2 r2 l2)
      · rw [r2.nil_iff] at z2; subst z2
        exact k G H (.refl G) R _ (by rw [List.append_nil]; exact .tup f1 r1 l1)
      · obtain ⟨g1, g2, g3⟩ := R.tup hp (r1.append r2) (by rw [List.length_append]; exact h)
        exact k _ _ g1 g2 _ g3
    · cases e
  · split at e
    · rename_i xs ys h
      cases e
      obtain ⟨a, vs, rfl, h1, r1, l1⟩ := rx.lst R.h
      obtain ⟨b, us, rfl, h2, r2, l2⟩ := ry.lst R.h
      refine .inr (.inr (.inr ⟨a, b, vs, us, rfl, rfl, h1, h2, by rw [← r1.length, ← r2.length]; exact lim_le h, fun p hp => ?_⟩))
      obtain ⟨g2, g3⟩ := R.own hp (m := .lst (xs ++ ys)) (o := .lst (vs ++ us)) ⟨r1.append r2, by rw [List.length_append]; exact h⟩
      exact k _ _ (.refl G) g2 _ g3
    · cases e
  · cases e; cases rx.int; cases ry.int
    exact ⟨_, _, rfl, rfl, k G H (.refl G) R _ (.int _)⟩
  · split at e
    · rename_i h; cases e; cases rx.int; cases ry.int
      refine .inl ⟨_, _, rfl, rfl, ?_, k G H (.refl G) R _ (.int _)⟩
      simp only [smallI, Bool.or_eq_true, decide_eq_true_eq] at h
      exact h
    · cases e
  · split at e
    · rename_i xs n h
      cases e
      cases ry.int
      obtain ⟨a, vs, rfl, h1, r1, l1⟩ := rx.lst R.h
      have hL : (LIM : Int) = 1048576 := rfl
      refine .inr ⟨a, n, vs, rfl, rfl, h1, by omega, by omega, by rw [← r1.length]; exact lim_le h.2.2, fun p hp => ?_⟩
      obtain ⟨g2, g3⟩ := R.own hp (m := .lst (List.replicate n.toNat xs).flatten) (o := .lst (List.replicate n.toNat vs).flatten) ⟨r1.flat _, by
        rw [List.length_flatten, List.map_replicate, List.sum_replicate_nat, Nat.mul_comm]; exact h.2.2⟩
      exact k _ _ (.refl G) g2 _ g3
    · cases e
  · split at e
    · rename_i h; cases e; cases rx.int; cases ry.int
      exact ⟨_, _, rfl, rfl, h, k G H (.refl G) R _ (.int _)⟩
    · cases e
  · split at e
    · rename_i h; cases e; cases rx.int; cases ry.int
      exact ⟨_, _, rfl, rfl, h, k G H (.refl G) R _ (.int _)⟩
    · cases e
  · split at e
    · rename_i h; cases e; cases rx.int; cases ry.int
      exact ⟨_, _, rfl, rfl, h, k G H (.refl G) R _ (.int _)⟩
    · cases e
  · cases e
end
end Tk
namespace Tk
open PySem L2 PyProof.Rows

section
variable {X : Cx}
def rInT (K : PySem.W.Frag) : R2 := fun x y H Q => ∃ d ds, Dp K H x d ∧ Dp K H y (.tuple ds) ∧ SeqAt.shaped d = true ∧ SeqAt.shaped (.tuple ds) = true ∧ Q (.bl (ds.any fun z => PyData.eqv z d)) H
def rNotInT (K : PySem.W.Frag) : R2 := fun x y H Q => ∃ d ds, Dp K H x d ∧ Dp K H y (.tuple ds) ∧ SeqAt.shaped d = true ∧ SeqAt.shaped (.tuple ds) = true ∧ Q (.bl (!ds.any fun z => PyData.eqv z d)) H
theorem op_inT (hu : X.A.units + 65 < cLine) : OpR X (compareOp .In) (rInT X.K) := by
  intro pins s σ H x y v u Q I rx ry h
  obtain ⟨d, ds, hd, he, sd, se, q⟩ := h
  obtain ⟨as, r1⟩ := Dp.reads I d x v hd rx
  obtain ⟨bs, r2⟩ := Dp.reads I (.tuple ds) y u he ry
  exact SeqAt.in_tuple_reads r2 r1 (SeqAt.canLay_of_shaped se) (SeqAt.canLay_of_shaped sd) (room_in_shaped sd hu) ⟨.bl _, H, I, rfl, q⟩
theorem op_notInT (hu : X.A.units + 65 < cLine) : OpR X (compareOp .NotIn) (rNotInT X.K) := by
  intro pins s σ H x y v u Q I rx ry h
  obtain ⟨d, ds, hd, he, sd, se, q⟩ := h
  obtain ⟨as, r1⟩ := Dp.reads I d x v hd rx
  obtain ⟨bs, r2⟩ := Dp.reads I (.tuple ds) y u he ry
  exact SeqAt.notIn_tuple_reads r2 r1 (SeqAt.canLay_of_shaped se) (SeqAt.canLay_of_shaped sd) (room_in_shaped sd hu) ⟨.bl _, H, I, rfl, q⟩
def rInK (neg : Bool) : R2 := fun x y H Q => ∃ (a : Addr) (k : Int) (kvs : List (Key × V)), x = .int k ∧ y = .ref a ∧ Rd H a (.dK kvs) ∧ Q (.bl ((valV kvs (.inl k)).isSome != neg)) H
theorem op_inK (hu : X.A.units + 1 < cLine) : OpR X (compareOp .In) (rInK false) := by
  intro pins s σ H x y v u Q I rx ry h
  obtain ⟨a, k, kvs, rfl, rfl, e, q⟩ := h
  cases ry
  refine d_in hu I (.inl ⟨kvs, .inl k, e, rfl, rfl⟩) rx fun s3 I3 => ⟨.bl _, H, I3, rfl, ?_⟩
  simpa using q
theorem op_notInK (hu : X.A.units + 1 < cLine) : OpR X (compareOp .NotIn) (rInK true) := by
  intro pins s σ H x y v u Q I rx ry h
  obtain ⟨a, k, kvs, rfl, rfl, e, q⟩ := h
  cases ry
  refine d_notIn hu I (.inl ⟨kvs, .inl k, e, rfl, rfl⟩) rx fun s3 I3 => ⟨.bl _, H, I3, rfl, ?_⟩
  simpa using q
def rIxK : R2 := fun x y H Q => ∃ (a : Addr) (k : Int) (kvs : List (Key × V)) (v : V), x = .ref a ∧ y = .int k ∧ Rd H a (.dK kvs) ∧ valV kvs (.inl k) = some v ∧ Q v H
theorem ix_dict (hu : X.A.units + 1 < cLine) : IxR X rIxK := by
  intro value slice pins s σ H x y v u Q I rx ry h hs
  obtain ⟨a, k, kvs, z, rfl, rfl, e, l, q⟩ := h
  cases rx
  have g : DGet H a (kV (.inl k)) (some z) := .inl ⟨kvs, .inl k, e, rfl, l.symm⟩
  unfold subscriptTail
  refine wpAny_bind ?_
  have hT := dict_typeIs I g
  rw [getitemInPython_of_ne hT.not_modules]
  refine wpAny_bind (wpAny_specialOf hT PySem.F.slot_dict_getitem.lookup ?_)
  have fin : wpAny (model X.prog X.w) X.A (subscripted slice false (.ref a) u) (fun r s₃ => wpAny (model X.prog X.w) X.A (letTemporaryGo value (.ref a) r >>= fun _ => pure r) (EP X pins σ Q) X.xe s₃) X.xe s := by
    rw [hs]
    exact wpAny_operating (d_getItem hu I g ry fun w' s3 I3 rw' => wpAny_bind (wpAny_letTemporaryGo (wpAny_pure ⟨z, H, I3, rw', q⟩)))
  first
    | exact wpAny_pure (wpAny_bind fin)
    | exact wpAny_bind (wpAny_pure (wpAny_bind fin))
end

def copOf : Cop → CmpOp
  | .eq => .Eq | .ne => .NotEq | .lt => .Lt | .le => .LtE | .gt => .Gt | .ge => .GtE | .isIn => .In | .notIn => .NotIn
def rCmp (K : PySem.W.Frag) : Cop → R2
  | .eq => rEqD K
  | .ne => rNeD K
  | .lt => rI0 fun i j => .bl (decide (i < j))
  | .le => rI0 fun i j => .bl (decide (i ≤ j))
  | .gt => rI0 fun i j => .bl (decide (j < i))
  | .ge => rI0 fun i j => .bl (decide (j ≤ i))
  | .isIn => fun x y H Q => rInD K x y H Q ∨ (rInT K x y H Q ∨ rInK false x y H Q)
  | .notIn => fun x y H Q => rNotInD K x y H Q ∨ (rNotInT K x y H Q ∨ rInK true x y H Q)
theorem opr_cmp {X : Cx} (hu : X.A.units + 65 < cLine) : ∀ op : Cop, OpR X (compareOp (copOf op)) (rCmp X.K op)
  | .eq => op_eqD (by omega)
  | .ne => op_neD (by omega)
  | .lt => op_lt
  | .le => op_le
  | .gt => op_gt
  | .ge => op_ge
  | .isIn => (op_inD hu).or ((op_inT hu).or (op_inK (by omega)))
  | .notIn => (op_notInD hu).or ((op_notInT hu).or (op_notInK (by omega)))

theorem valV_getK {G : Gh} : ∀ {kvs : List (Key × V)} {ks : List Int} {ds : List D}, kvs.map (·.1) = ks.map Sum.inl → RelDs G ds (kvs.map (·.2)) → ∀ k : Int,
    (∀ d, getK ks ds k = some d → ∃ v, valV kvs (.inl k) = some v ∧ RelD G d v) ∧ ((valV kvs (.inl k)).isSome = decide (k ∈ ks))
  | [], [], ds, _, _, k => ⟨fun d e => (by cases ds <;> cases e), by simp [valV]⟩
  | [], _ :: _, _, e, _, _ => by simp at e
  | _ :: _, [], _, e, _, _ => by simp at e
  | p :: kvs, j :: ks, ds, e, r, k => by
    simp only [List.map_cons, List.cons.injEq] at e
    cases r with
    | @cons d ds' v vs' r1 r2 =>
      by_cases h : j = k
      · subst h
        rw [valV_pos e.1]
        refine ⟨fun d' q => ?_, by simp⟩
        simp only [getK, if_pos rfl] at q
        cases q
        exact ⟨_, rfl, r1⟩
      · have hne : ¬ p.1 = Sum.inl k := fun z => h (Sum.inl.inj (e.1.symm.trans z))
        rw [valV_neg hne]
        obtain ⟨h1, h2⟩ := valV_getK e.2 r2 k
        refine ⟨fun d' q => ?_, ?_⟩
        · simp only [getK, if_neg h] at q
          exact h1 d' q
        · rw [h2]
          have : k ≠ j := fun z => h z.symm
          simp [this]

section
variable {C : Ct} {B : Base} {G : Gh} {S : Sg} {σ : L2.St} {H : Hp} {K : PySem.W.Frag} {st : List SO}
theorem pys_any : ∀ {ds : List D} {ps : List PyData}, D.pys ds = some ps → ps = ds.map pyD
  | [], _, e => by simp only [D.pys] at e; cases e; rfl
  | d :: ds, _, e => by
    simp only [D.pys] at e
    cases q1 : D.py d with
    | none => rw [q1] at e; simp at e
    | some p =>
      cases q2 : D.pys ds with
      | none => rw [q1, q2] at e; simp at e
      | some qs =>
        rw [q1, q2] at e; cases e
        rw [List.map_cons, ← pys_any q2]
        unfold pyD
        rw [q1]; rfl
theorem plain_lst {ds : List D} (h : (D.lst ds).plain = true) : D.pys ds = some (ds.map pyD) ∧ SeqAt.shaped (.list (ds.map pyD)) = true ∧ SeqAt.shaped (.tuple (ds.map pyD)) = true := by
  unfold D.plain at h
  simp only [D.py] at h
  cases q : D.pys ds with
  | none => rw [q] at h; cases h
  | some ps =>
    rw [q] at h
    have e := pys_any q
    subst e
    exact ⟨rfl, h, h⟩

theorem eq_go {x y : D} {v u : V} {b : Bool} (R : RH C.cl B G st H) (rx : RelN G H x v) (ry : RelN G H y u) (e : eqD x y = some b) :
    ∃ d e, Dp K H v d ∧ Dp K H u e ∧ SeqAt.shaped d = true ∧ SeqAt.shaped e = true ∧ PyData.eqv d e = b := by
  unfold eqD at e
  split at e
  · rename_i h
    cases e
    rw [Bool.and_eq_true] at h
    obtain ⟨a1, a2⟩ := plain_py h.1
    obtain ⟨b1, b2⟩ := plain_py h.2
    exact ⟨_, _, rx.dp R a1, ry.dp R b1, a2, b2, rfl⟩
  · cases e
theorem mem_go {x : D} {ys : List D} {v : V} {b : Bool} (R : RH C.cl B G st H) (rx : RelN G H x v) (e : memD x ys = some b) :
    ∃ d, Dp K H v d ∧ SeqAt.shaped d = true ∧ D.pys ys = some (ys.map pyD) ∧ SeqAt.shaped (.list (ys.map pyD)) = true ∧ SeqAt.shaped (.tuple (ys.map pyD)) = true ∧ ((ys.map pyD).any fun z => PyData.eqv z d) = b := by
  unfold memD at e
  split at e
  · rename_i h
    cases e
    rw [Bool.and_eq_true] at h
    obtain ⟨a1, a2⟩ := plain_py h.1
    obtain ⟨b1, b2, b3⟩ := plain_lst h.2
    exact ⟨_, rx.dp R a1, a2, b1, b2, b3, by rw [List.any_map]; rfl⟩
  · cases e
theorem cmp_go {op : Cop} {x y : D} {v u : V} {b : Bool} {Q : VK} (R : RH C.cl B G st H) (rx : RelN G H x v) (ry : RelN G H y u) (e : cmpD op x y = some b) (k : Q (.bl b) H) : rCmp K op v u H Q := by
  unfold cmpD at e
  split at e
  · obtain ⟨d, f, h1, h2, h3, h4, rfl⟩ := eq_go (K := K) R rx ry e
    exact ⟨d, f, h1, h2, h3, h4, k⟩
  · cases q : eqD x y with
    | none => rw [q] at e; cases e
    | some c =>
      rw [q] at e; cases e
      obtain ⟨d, f, h1, h2, h3, h4, rfl⟩ := eq_go (K := K) R rx ry q
      exact ⟨d, f, h1, h2, h3, h4, k⟩
  · cases e; cases rx.int; cases ry.int; exact ⟨_, _, rfl, rfl, k⟩
  · cases e; cases rx.int; cases ry.int; exact ⟨_, _, rfl, rfl, k⟩
  · cases e; cases rx.int; cases ry.int; exact ⟨_, _, rfl, rfl, k⟩
  · cases e; cases rx.int; cases ry.int; exact ⟨_, _, rfl, rfl, k⟩
  · rename_i ys
    obtain ⟨d, h1, h2, h3, h4, h5, rfl⟩ := mem_go (K := K) R rx e
    exact .inr (.inl ⟨d, _, h1, ry.dp R (by simp only [D.py, h3, Option.map_some]), h2, h5, k⟩)
  · rename_i ys
    obtain ⟨d, h1, h2, h3, h4, h5, rfl⟩ := mem_go (K := K) R rx e
    exact .inl ⟨d, _, h1, ry.dp R (by simp only [D.py, h3, Option.map_some]), h2, h4, k⟩
  · cases e
    cases rx.int
    obtain ⟨a, kvs, rfl, h1, h2, r, _⟩ := ry.dct R
    exact .inr (.inr ⟨a, _, kvs, rfl, rfl, h1, by rw [(valV_getK h2 r _).2]; simpa using k⟩)
  · rename_i ys
    cases q : memD x ys with
    | none => rw [q] at e; cases e
    | some c =>
      rw [q] at e; cases e
      obtain ⟨d, h1, h2, h3, h4, h5, rfl⟩ := mem_go (K := K) R rx q
      exact .inr (.inl ⟨d, _, h1, ry.dp R (by simp only [D.py, h3, Option.map_some]), h2, h5, k⟩)
  · rename_i ys
    cases q : memD x ys with
    | none => rw [q] at e; cases e
    | some c =>
      rw [q] at e; cases e
      obtain ⟨d, h1, h2, h3, h4, h5, rfl⟩ := mem_go (K := K) R rx q
      exact .inl ⟨d, _, h1, ry.dp R (by simp only [D.py, h3, Option.map_some]), h2, h4, k⟩
  · cases e
    cases rx.int
    obtain ⟨a, kvs, rfl, h1, h2, r, _⟩ := ry.dct R
    exact .inr (.inr ⟨a, _, kvs, rfl, rfl, h1, by rw [(valV_getK h2 r _).2]; simpa using k⟩)
  · cases e

def rIdx (K : PySem.W.Frag) : R2 := fun x y H Q => rIxL K x y H Q ∨ (rIxT K x y H Q ∨ rIxK x y H Q)
theorem ixr_idx {X : Cx} (hu : X.A.units + 1 < cLine) : IxR X (rIdx X.K) := ix_list.or (ix_tup.or (ix_dict hu))
theorem ixN_eq {α β : Type} {xs : List α} {ys : List β} (h : xs.length = ys.length) (i : Int) : ixN xs.length i = ixN ys.length i := by rw [h]
theorem RelDs.atI {ds : List D} {vs : List V} (r : RelDs G ds vs) {i : Int} {d : D} (e : atI ds i = some d) : ∃ v, L2.atI vs i = some v ∧ RelD G d v := by
  unfold L2.atI at e ⊢
  rw [← r.length]
  cases q : ixN ds.length i with
  | none => rw [q] at e; cases e
  | some j =>
    rw [q] at e
    exact r.get e
theorem idx_go (hz : ∀ a xs, C.cl.Z a xs → ∀ H, SqL K H a (xs.map .int)) {x y d : D} {v u : V} {Q : VK} (R : RH C.cl B G st H) (rx : RelN G H x v) (ry : RelN G H y u) (e : idxD x y = some d) (k : ∀ w, RelD G d w → Q w H) : rIdx K v u H Q := by
  unfold idxD at e
  split at e
  · cases ry.int
    obtain ⟨a, vs, rfl, f1, h1, r1, l1⟩ := rx.tup R
    obtain ⟨w, e1, r2⟩ := r1.atI e
    exact .inr (.inl ⟨a, vs, _, w, rfl, rfl, SqT.of h1, e1, k w r2⟩)
  · cases ry.int
    obtain ⟨a, vs, rfl, h1, r1, l1⟩ := rx.lst R
    obtain ⟨w, e1, r2⟩ := r1.atI e
    exact .inl ⟨a, vs, _, w, rfl, rfl, SqL.of h1, e1, k w r2⟩
  · cases ry.int
    obtain ⟨a, kvs, rfl, h1, h2, r, _⟩ := rx.dct R
    obtain ⟨w, e1, r2⟩ := (valV_getK h2 r _).1 d e
    exact .inr (.inr ⟨a, _, kvs, w, rfl, rfl, h1, e1, k w r2⟩)
  · rename_i xs i
    cases ry.int
    obtain ⟨a, rfl, h1⟩ := rx.scr R
    have h1 : SqL K H a (xs.map .int) := h1.elim (fun ⟨o, q⟩ => .inl (.inr ⟨o, q⟩)) fun z => hz a xs z H
    cases q : L2.atI xs i with
    | none => rw [q] at e; cases e
    | some n =>
      rw [q] at e; cases e
      have e2 : L2.atI (xs.map V.int) i = some (.int n) := by
        unfold L2.atI at q ⊢
        rw [List.length_map]
        cases q2 : ixN xs.length i with
        | none => rw [q2] at q; cases q
        | some j =>
          rw [q2] at q
          show (xs.map V.int)[j]? = some (.int n)
          rw [List.getElem?_map, show xs[j]? = some n from q]; rfl
      exact .inl ⟨a, _, i, _, rfl, rfl, h1, e2, k _ (.int n)⟩
  · cases e

def rSlc (K : PySem.W.Frag) : V → Option Int → Option Int → Hp → VK → Prop := fun x lo hi H Q => rSlA K x lo hi H Q ∨ rSlL K x lo hi H Q
theorem slr_slc {X : Cx} : SlR X (rSlc X.K) := sl_tupA.or sl_list
theorem RelDs.cut {ds : List D} {vs : List V} (r : RelDs G ds vs) (lo hi : Option Int) : RelDs G (cutL ds lo hi) (cutV vs lo hi) := by
  unfold cutL cutV
  rw [r.length]
  exact (r.drop _).take _
theorem cutL_le {ds : List D} (lo hi : Option Int) : (cutL ds lo hi).length ≤ ds.length := by
  unfold cutL
  rw [List.length_take, List.length_drop]; omega
theorem cut_whole {ds : List D} {lo hi : Option Int} (h : HT.sIx ds.length 0 lo = 0 ∧ HT.sIx ds.length ds.length hi = ds.length) : cutL ds lo hi = ds := by
  unfold cutL
  rw [h.1, h.2]; simp
theorem slc_go {x : D} {v : V} {l h : Option Int} {r : Rv} {Q : VK} (R : RR C.cl B G S σ H) (rx : RelN G H x v)
    (e : slcV x l h = some r)
    (k : ∀ G' H', G.Le G' → RR C.cl B G' S σ H' → ∀ w, RelRv B G' H' S.env σ r w → Q w H') : rSlc K v l h H Q := by
  unfold slcV at e
  split at e
  · cases e
    obtain ⟨a, vs, rfl, f1, h1, r1, l1⟩ := rx.tup R.h
    refine .inl ⟨a, vs, rfl, SqT.of h1, fun z => ?_, fun z p hp => ?_⟩
    · rw [← r1.length] at z
      exact k G H (.refl G) R _ (by rw [cut_whole z]; exact .tup f1 r1 l1)
    · obtain ⟨g1, g2, g3⟩ := R.tup hp (r1.cut l h) (Nat.le_trans (cutL_le _ _) l1)
      exact k _ _ g1 g2 _ g3
  · cases e
    obtain ⟨a, vs, rfl, h1, r1, l1⟩ := rx.lst R.h
    refine .inr ⟨a, vs, rfl, SqL.of h1, fun p hp => ?_⟩
    obtain ⟨g2, g3⟩ := R.own hp (m := .lst (cutL _ l h)) (o := .lst (cutV vs l h)) ⟨r1.cut l h, Nat.le_trans (cutL_le _ _) l1⟩
    exact k _ _ (.refl G) g2 _ g3
  · cases e
theorem RelDs.isEmpty {ds : List D} {vs : List V} (r : RelDs G ds vs) : vs.isEmpty = ds.isEmpty := by cases r <;> rfl
theorem truth_go {x : D} {v : V} {b : Bool} (R : RH C.cl B G st H) (rx : RelN G H x v) (e : truthD x = some b) : TruV K v H b := by
  unfold truthD at e
  split at e
  · cases e; cases rx.non; rfl
  · cases e; cases rx.bl; rfl
  · cases e; cases rx.int; rfl
  · rename_i xs
    obtain ⟨a, vs, rfl, f1, h1, r1, l1⟩ := rx.tup R
    cases e
    exact .inr (.inl ⟨vs, SqT.of h1, by rw [r1.isEmpty]⟩)
  · rename_i xs
    obtain ⟨a, vs, rfl, h1, r1, l1⟩ := rx.lst R
    cases e
    exact .inl ⟨vs, SqL.of h1, by rw [r1.isEmpty]⟩
  · cases e
end
end Tk
namespace PySem.W
open PySem PySem.Calls PyProof.Rows PySem.SeqAt

section
variable {prog : Program} {w : World} {M : Model} {A : Around} {E : Value → Shared → Prop} {s : Shared}
theorem tk_call_tuple_lt {Q : Value → Shared → Prop} {l b : Addr} {items items2 : Array Value} {e r : Nat → Bool} (hl : s.heap.IsTuple l items) (hb : s.heap.IsTuple b items2)
    (he : ∀ j (h1 : j < items.size) (h2 : j < items2.size), EqAt A.in1 s items[j] items2[j] (e j)) (hr : ∀ j (h1 : j < items.size) (h2 : j < items2.size), e j = false → RcLt A.in1 s items[j] items2[j] (r j))
    (h : Q (.bool (firstLt e r (decide (items.size < items2.size)) (List.range (min items.size items2.size)))) s) : wpAny (model prog w) A (call (.builtin "tuple.__lt__") [.ref l, .ref b]) Q E s := by
  obtain ⟨⟨cls, dd, data, sl⟩, ho, hc, n, hd⟩ := id hl
  obtain ⟨⟨cls2, dd2, data2, sl2⟩, ho2, hc2, n2, hd2⟩ := id hb
  simp only at hc hd hc2 hd2
  subst hc hd hc2 hd2
  exact call_meets F.slot_tuple_lt ⟨_, ho, rfl⟩ F.entry_tuple_lt (F.args_tuple_lt_2 _ _) (tuple_ltAt l b items items2 n n2 dd dd2 sl sl2 e r) ⟨ho, ho2, he, hr, h⟩
theorem tk_oneLt_tuple {xs ys : List PyData} {a b : Value} {as bs : List Addr} {Q : Bool → Shared → Prop} (ra : Reads s.heap a (.tuple xs) as) (rb : Reads s.heap b (.tuple ys) bs) (hal : alikeAll xs ys = true)
    (hu : A.units + min (PyData.tuple xs).depth (PyData.tuple ys).depth < cLine) (hq : Q (dataLt (.tuple xs) (.tuple ys)) s) : wpAny (model prog w) A (oneLt' true a b) Q E s := by
  cases ra with
  | @tuple l o vs n _ as₁ h1 h2 h3 h4 =>
    cases rb with
    | @tuple l' o' vs' n' _ bs₁ k1 k2 k3 k4 =>
      have n1 : vs.size = xs.length := by simpa using ReadsAll.length _ _ _ h4
      have n2 : vs'.size = ys.length := by simpa using ReadsAll.length _ _ _ k4
      rw [dataLt_tuple, ← firstLt_toks xs ys hal, ← n1, ← n2] at hq
      rw [oneLt'_eq]
      simp only [if_true]
      refine wpAny_bind (wpAny_cRoomFor (room_here hu) ?_)
      refine wpAny_bind (wpAny_callSpecialIfBound?_slot (T := "tuple") ⟨_, h1, h2⟩ F.slot_tuple_lt (tk_call_tuple_lt (e := pairEq xs ys) (r := fun j => dataLt (xs.getD j .none) (ys.getD j .none)) ⟨_, h1, h2, _, h3⟩ ⟨_, k1, k2, _, k3⟩ (fun j j1 j2 => ?_) (fun j j1 j2 hj => ?_) ?_))
      · have := eqAt_alikeAll xs ys A.in1 s vs.toList vs'.toList _ _ h4 k4 hal (room_in hu) j (by simpa using j1) (by simpa using j2)
        simpa using this
      · have := rcLt_alikeAll xs ys A.in1 s vs.toList vs'.toList _ _ h4 k4 hal (room_in hu) j (by simpa using j1) (by simpa using j2) hj
        simpa using this
      · exact wpAny_truthy_bool hq
theorem tk_mapM {α β : Type} {f : α → Sem β} (r : α → β) : ∀ (l : List α) {Q : List β → Shared → Prop}, (∀ v ∈ l, ∀ (Q' : β → Shared → Prop), Q' (r v) s → wpAny M A (f v) Q' E s) → Q (l.map r) s → wpAny M A (l.mapM f) Q E s
  | [], _, _, h => by rw [List.mapM_nil]; exact wpAny_pure h
  | x :: l, Q, hf, h => by
    rw [List.mapM_cons]
    exact wpAny_bind (hf x (.head _) _ (wpAny_bind (tk_mapM r l (Q := fun bs s' => wpAny M A (pure (r x :: bs)) Q E s') (fun v hv => hf v (.tail _ hv)) (wpAny_pure h))))
theorem tk_first {v : Value} {xs : List PyData} {as : List Addr} (r : Reads s.heap v (.tuple xs) as) : ∃ o : Option Value, o.isSome = !xs.isEmpty ∧ ∀ Q' : Option Value → Shared → Prop, Q' o s → wpAny M A (firstOfTuple' v) Q' E s := by
  cases r with
  | @tuple l ob vs n _ as₁ h1 h2 h3 h4 =>
    have n1 : vs.size = xs.length := by simpa using ReadsAll.length _ _ _ h4
    refine ⟨vs[0]?, ?_, fun Q' hq => ?_⟩
    · cases xs with
      | nil => simp at n1; simp [n1]
      | cons x xs =>
        have : 0 < vs.size := by rw [n1]; simp
        simp [this]
    · rw [kas_first_eq]
      refine wpAny_bind (Looks.here (show Looks M s.heap (typeOf (.ref l)) ob.cls from (Looks.ld h1).andThen .now) ?_)
      rw [h2, if_neg (by first | decide | simp)]
      exact wpAny_bind (listItems_at h1 h3 (wpAny_pure hq))
def tkFull : PyData → Bool
  | .tuple (_ :: _) => true
  | _ => false
theorem tk_firsts : ∀ {vs : List Value} {ds : List PyData}, EachIs (fun v d => ∃ as, Reads s.heap v d as) vs ds → (∀ d ∈ ds, ∃ xs, d = .tuple xs) →
    ∃ os : List (Option Value), os.map (·.isSome) = ds.map tkFull ∧ ∀ (E : Value → Shared → Prop) (Q : List (Option Value) → Shared → Prop), Q os s → wpAny M A (vs.mapM firstOfTuple') Q E s
  | _, _, .nil, _ => ⟨[], rfl, fun E Q h => by rw [List.mapM_nil]; exact wpAny_pure h⟩
  | _, _, .cons (b := d) ⟨as, r⟩ t, ht => by
    obtain ⟨os, h1, h2⟩ := tk_firsts t fun d hd => ht d (List.mem_cons_of_mem _ hd)
    obtain ⟨xs, rfl⟩ := ht d (List.mem_cons_self ..)
    obtain ⟨o, ho, hq⟩ := tk_first (M := M) (A := A) (E := fun _ _ => True) r
    cases r with
    | @tuple l ob ws n _ as₁ g1 g2 g3 g4 =>
      have n1 : ws.size = xs.length := by simpa using ReadsAll.length _ _ _ g4
      refine ⟨ws[0]? :: os, ?_, fun E Q h => ?_⟩
      · rw [List.map_cons, List.map_cons, h1]
        congr 1
        cases xs with
        | nil => simp at n1; simp [n1, tkFull]
        | cons x xs =>
          have : 0 < ws.size := by rw [n1]; simp
          simp [this, tkFull]
      · rw [List.mapM_cons]
        refine wpAny_bind ?_
        rw [kas_first_eq]
        refine wpAny_bind (Looks.here (show Looks M s.heap (typeOf (.ref l)) ob.cls from (Looks.ld g1).andThen .now) ?_)
        rw [g2, if_neg (by first | decide | simp)]
        refine wpAny_bind (listItems_at g1 g3 (wpAny_pure ?_))
        exact wpAny_bind (h2 _ _ (wpAny_pure h))
/-- the kind of keys for tuples of which some one is empty -/
theorem tk_kind {vs : List Value} {ds : List PyData} (e : EachIs (fun v d => ∃ as, Reads s.heap v d as) vs ds) (ht : ∀ d ∈ ds, ∃ xs, d = .tuple xs) (he : ∃ d ∈ ds, d = .tuple []) :
    ∃ kd : SortKind, (kd = general' ∨ kd = oneType') ∧ (∀ (E : Value → Shared → Prop) {Q : SortKind → Shared → Prop}, Q kd s → wpAny M A (keyKind' vs.toArray) Q E s) := by
  obtain ⟨os, h1, h2⟩ := tk_firsts (M := M) (A := A) e ht
  have hall : ¬ (os.toArray.all (fun x => x.isSome)) = true := by
    rw [List.all_toArray]
    intro h
    obtain ⟨d, hd, rfl⟩ := he
    have h3 : (ds.map tkFull).all id = true := by rw [← h1]; simpa [List.all_map] using h
    have := List.all_eq_true.mp h3 (tkFull (.tuple [])) (List.mem_map.mpr ⟨_, hd, rfl⟩)
    simp [tkFull] at this
  by_cases hs : (os.toArray[0]?.bind id).isSome = true
  · refine ⟨general', .inl rfl, fun E Q hq => ?_⟩
    rw [kat_kind_eq, List.mapM_toArray, map_eq_pure_bind]
    refine wpAny_bind (wpAny_bind (h2 _ _ (wpAny_pure ?_)))
    rw [if_neg hall, if_pos hs]
    exact wpAny_pure hq
  · refine ⟨oneType', .inr rfl, fun E Q hq => ?_⟩
    rw [kat_kind_eq, List.mapM_toArray, map_eq_pure_bind]
    refine wpAny_bind (wpAny_bind (h2 _ _ (wpAny_pure ?_)))
    rw [if_neg hall, if_neg hs]
    rw [oneTypeOnly'_eq, List.mapM_toArray, map_eq_pure_bind]
    have hT : ∀ v ∈ vs, Looks M s.heap (typeOf v) (.type "tuple") := fun v hv => by
      obtain ⟨d, hd, as, r⟩ := e.left v hv
      obtain ⟨xs, rfl⟩ := ht d hd
      exact looks_reads r
    refine wpAny_bind (wpAny_bind (wpAny_bind (kas_mapM (r := Value.type "tuple") _ (fun v hv Q' hq => (hT v hv).here hq) (wpAny_pure ?_))))
    obtain ⟨v₁, rest, rfl⟩ : ∃ v₁ rest, vs = v₁ :: rest := by
      obtain ⟨d, hd, rfl⟩ := he
      cases e with
      | nil => cases hd
      | cons _ _ => exact ⟨_, _, rfl⟩
    have hall2 : ((List.map (fun _ => Value.type "tuple") (v₁ :: rest)).toArray.all fun x => x == Value.type "tuple") = true := by
      simp only [List.all_toArray, List.all_map, List.all_eq_true]
      intro _ _
      rfl
    have h0 : (List.map (fun _ => Value.type "tuple") (v₁ :: rest)).toArray[0]? = some (Value.type "tuple") := by simp
    rw [h0]
    simp only [hall2, if_true]
    exact wpAny_pure (wpAny_pure hq)
theorem keyLt'_general (x y : Value) : keyLt' general' x y = oneLt' false x y := rfl
/-- data that is alike and holds no None at the top can be sorted -/
theorem SortsAt.alike {vs : List Value} {ds : List PyData} (e : EachIs (fun v d => ∃ as, Reads s.heap v d as) vs ds) (hal : AllAlike ds) (hn : ∀ d ∈ ds, d ≠ .none) (hu : ∀ d, d ∈ ds → A.units + d.depth < cLine) : SortsAt prog w A s (dataKind s.heap ds) vs := by
  by_cases hk : Sortable ds
  · exact SortsAt.data e hal hk hu
  · have room : ∀ {d d' : PyData}, d ∈ ds → A.units + min d.depth d'.depth < cLine := fun {d d'} hd => Nat.lt_of_le_of_lt (Nat.add_le_add_left (Nat.min_le_left _ _) _) (hu d hd)
    have ht : ∀ d ∈ ds, ∃ xs, d = .tuple xs := by
      obtain ⟨d, hd⟩ := Classical.not_forall.mp fun z => hk (.inr z)
      obtain ⟨hd1, hd2⟩ := Classical.not_imp.mp hd
      obtain ⟨xs, rfl⟩ : ∃ xs, d = .tuple xs := by
        by_cases z : ∃ xs, d = .tuple xs
        · exact z
        · exact absurd ⟨hn d hd1, fun xs q => z ⟨xs, q⟩⟩ hd2
      intro d' hd'
      have q := hal _ hd1 d' hd'
      cases d' <;> first | exact ⟨_, rfl⟩ | (exact absurd q (by simp [PySem.W.alike]))
    have he : ∃ d ∈ ds, d = .tuple [] := by
      by_cases z : ∃ d ∈ ds, d = .tuple []
      · exact z
      · refine absurd (.inl fun d hd => ?_) hk
        obtain ⟨xs, rfl⟩ := ht d hd
        cases xs with
        | nil => exact absurd ⟨_, hd, rfl⟩ z
        | cons x r => exact ⟨x, r, rfl⟩
    refine ⟨fun v hv => ?_, ?_⟩
    · obtain ⟨d, hd, as, r⟩ := e.left v hv
      exact ⟨_, dataKind_some hal hd r⟩
    · obtain ⟨kd, hkd, hkind⟩ := tk_kind (M := model prog w) (A := A) e ht he
      refine ⟨kd, ?_, fun _ E Q h => hkind E h⟩
      intro E x y a b Q ha hb hq
      obtain ⟨d, as, hd, ra, rfl⟩ := dataKind_inv ha
      obtain ⟨d', as', hd', rb, rfl⟩ := dataKind_inv hb
      rcases hkd with rfl | rfl
      · rw [keyLt'_general]
        exact oneLt_alike (fun z => absurd z (by decide)) ra rb (hal d hd d' hd') (hn d hd) (room hd) hq
      · rw [keyLt'_oneType]
        obtain ⟨xs, rfl⟩ := ht d hd
        obtain ⟨ys, rfl⟩ := ht d' hd'
        exact tk_oneLt_tuple ra rb (by simpa [PySem.W.alike] using hal _ hd _ hd') (room hd) hq
end
end PySem.W

namespace Tk
open PySem L2 PySem.W PyProof.Rows
/-- what sorted asks: a list or tuple of items that stand for data -/
def rSortD (K : PySem.W.Frag) : List V → Hp → VK → Prop := fun vs H Q => ∃ (a : Addr) (bs : List (D × V)), vs = [.ref a] ∧ SqL K H a (bs.map (·.2)) ∧ (∀ b ∈ bs, Dp K H b.2 (pyD b.1)) ∧
  AllAlike (bs.map fun b => pyD b.1) ∧ (∀ b ∈ bs, pyD b.1 ≠ .none ∧ (pyD b.1).depth ≤ 64) ∧ ∀ p, H p = none → Q (.ref p) (upd H p (.lst ((bs.mergeSort (dataLe false fun b : D × V => pyD b.1)).map (·.2))))
theorem each_vals : ∀ {us : List Value} {bs : List (D × V)}, Vals (bs.map (·.2)) us → EachIs (fun u b => RelV b.2 u) us bs
  | us, [], h => by cases h; exact .nil
  | us, b :: bs, h => by
    cases h with
    | cons r t => exact .cons r (each_vals t)
theorem vals_each : ∀ {us : List Value} {bs : List (D × V)}, EachIs (fun u b => RelV b.2 u) us bs → Vals (bs.map (·.2)) us
  | _, _, .nil => .nil
  | _, _, .cons h t => .cons h (vals_each t)
section
variable {X : Cx}
theorem cr_sortD (hu : X.A.units + 70 < cLine) : CallR X (.builtin "sorted") (rSortD X.K) := by
  intro pins s σ H vs us Q I r h
  obtain ⟨a, bs, rfl, hs, hd, hal, hn, q⟩ := h
  obtain ⟨its, rv, hl, hz⟩ := I.list hs
  rw [Vals.ref1 r]
  have e := each_vals rv
  have hlen : bs.length ≤ sizeLine := by rw [List.length_map] at hz; exact hz
  have er : EachIs (fun v b => ∃ as, Reads s.heap v (pyD b.1) as) its bs := by
    have e2 : EachIs (fun u b => RelV b.2 u ∧ b ∈ bs) its bs := each_mem e
    exact e2.mono fun u b ⟨h1, h2⟩ => Dp.reads I _ _ _ (hd b h2) h1
  have er' : EachIs (fun v b => ∃ as, Reads (sortingHeap (copyHeap s.heap its) (s.heap.objs.size + 1) its) v (pyD b.1) as) its bs := er.mono fun _ _ ⟨as, r⟩ => ⟨as, PyProof.Rows.Reads.keeps (fun _ _ => sorting_copy_old) r⟩
  refine sorted_vals hl.isList (SortsAt.alike (s := { s with heap := sortingHeap (copyHeap s.heap its) (s.heap.objs.size + 1) its }) (each_map (R := fun v d => ∃ as, Reads (sortingHeap (copyHeap s.heap its) (s.heap.objs.size + 1) its) v d as) (fun b : D × V => pyD b.1) er') hal
    (fun d hm => ?_) (fun d hm => ?_)) (by rw [e.length]; exact hlen) ?_
  · obtain ⟨b, hb, rfl⟩ := List.mem_map.mp hm
    exact (hn b hb).1
  · obtain ⟨b, hb, rfl⟩ := List.mem_map.mp hm
    have h1 := (hn b hb).2
    show X.A.units + 1 + 1 + _ < cLine
    omega
  · have out := sortVals_data (R := fun (u : Value) (b : D × V) => RelV b.2 u) false e er' hal
    obtain ⟨ep, he'⟩ := PyProof.Rows.sortedAll_at s.heap its (sortVals (dataKind (sortingHeap (copyHeap s.heap its) (s.heap.objs.size + 1) its) (bs.map fun b : D × V => pyD b.1)) false its its).toArray
    have hl2 : ((bs.mergeSort (dataLe false fun b : D × V => pyD b.1)).map (·.2)).length ≤ sizeLine := by
      rw [List.length_map, List.length_mergeSort]; exact hlen
    exact ⟨.ref _, upd H (s.heap.objs.size + 1) (.lst ((bs.mergeSort (dataLe false fun b : D × V => pyD b.1)).map (·.2))), I.laid (t' := s.toks) (fun _ _ => PyProof.Rows.sortedAll_old) (Nat.le_succ _) ⟨hl2, _, ep, vals_each out, he'⟩, rfl, q _ (I.hok.fresh (Nat.le_succ _))⟩
end
end Tk
namespace Tk
open PySem L2 PySem.W

theorem CallR.or {X : Cx} {f : Value} {r r' : List V → Hp → VK → Prop} (h : CallR X f r) (h' : CallR X f r') : CallR X f (fun xs H Q => r xs H Q ∨ r' xs H Q) := by
  intro pins s σ H xs us Q I rx q
  rcases q with q | q
  · exact h pins s σ H xs us Q I rx q
  · exact h' pins s σ H xs us Q I rx q
theorem CallR.never {X : Cx} {f : Value} : CallR X f (fun _ _ _ => False) := fun _ _ _ _ _ _ _ _ _ q => q.elim

def bifV : Bif → Value
  | .len => .builtin "len" | .sum => .builtin "sum" | .maxL => .builtin "max" | .max2 => .builtin "max" | .minL => .builtin "min" | .min2 => .builtin "min"
  | .any => .builtin "any" | .all => .builtin "all" | .sorted => .builtin "sorted" | .tuple => .type "tuple" | .list => .type "list" | .abs => .builtin "abs" | .int => .type "int"
  | _ => .none
def bifN : Bif → Str
  | .len => "len" | .sum => "sum" | .maxL => "max" | .max2 => "max" | .minL => "min" | .min2 => "min"
  | .any => "any" | .all => "all" | .sorted => "sorted" | .tuple => "tuple" | .list => "list" | .abs => "abs" | .int => "int"
  | _ => ""
def rLenA (K : PySem.W.Frag) : List V → Hp → VK → Prop := fun xs H Q => ∃ x n, xs = [x] ∧ LenV K x H n ∧ Q (.int n) H
def rI2 (f : Int → Int → Int) : List V → Hp → VK → Prop := fun xs H Q => ∃ i j, xs = [.int i, .int j] ∧ Q (.int (f i j)) H
/-- list(d), d a dict that may be walked meanwhile -/
def rListR : List V → Hp → VK → Prop := fun xs H Q => ∃ p kvs, xs = [.ref p] ∧ Rd H p (.dK kvs) ∧ ∀ q, H q = none → Q (.ref q) (upd H q (.lst (kvs.map fun kv => kV kv.1)))
theorem call_listR {X : Cx} (hc : X.calm = true) : CallR X (.type "list") rListR := by
  intro pins s σ H xs us Q I r h
  obtain ⟨p, kvs, e, hk, q⟩ := h
  subst e
  obtain ⟨u, eu, rx⟩ := vals1 r
  subst eu
  obtain rfl : u = Value.ref p := rx
  obtain ⟨z, lo, vs, rk, hd⟩ := (show ObjOk X.prog X.w H s.heap p (.dK kvs) from hk.ok I.hok)
  obtain ⟨ep, hat⟩ := hd.dictAt
  have hl : kvs.length = vs.length := KV.length rk
  refine PySem.W.kdl_call (PySem.W.kdl_dict (knd := mixKind X.prog X.w) (kvs := vs) (ep := ep) lo) (I.ok.hd hc) hat (by rw [← hl]; exact z) fun h' tk acc' c' hkeep hS hacc => ?_
  refine ⟨.ref s.heap.objs.size, upd H s.heap.objs.size (.lst (kvs.map fun kv => kV kv.1)), I.laid hkeep (Nat.le_refl _) (show ObjOk X.prog X.w _ _ _ (.lst (kvs.map fun kv => kV kv.1)) from ⟨?_, acc'.toList, c', ?_, ?_⟩), rfl, q _ (I.hok.fresh (Nat.le_refl _))⟩
  · rw [List.length_map]; exact z
  · have el : acc'.toList.length = acc'.size := by simp
    refine vals_of_at (by rw [List.length_map, el, hacc.1, hl]) fun j x w h1 h2 => ?_
    obtain ⟨k, y, hky, hi⟩ := hacc.2 j w (by rw [← Array.getElem?_toList]; exact h2)
    have e1 : (kvs.map (·.1))[j]? = some k := by
      rw [KV.keys rk, List.getElem?_map, hky] <;> rfl
    have e2 : (kvs.map fun kv => kV kv.1)[j]? = some (kV k) := by
      have e3 : (kvs.map fun kv => kV kv.1) = (kvs.map (·.1)).map kV := by rw [List.map_map] <;> rfl
      rw [e3, List.getElem?_map, e1] <;> rfl
    rw [e2] at h1
    cases h1
    exact keyIs_rel hi
  · rw [Array.toArray_toList]; exact hS
def rTupA (K : PySem.W.Frag) : List V → Hp → VK → Prop := fun xs H Q => ∃ p ys, xs = [.ref p] ∧ ((SqL K H p ys ∧ ∀ l, H l = none → Q (.ref l) (upd H l (.tup ys))) ∨ (SqT K H p ys ∧ Q (.ref p) H))
def rLstA (K : PySem.W.Frag) : List V → Hp → VK → Prop := fun xs H Q => ∃ p ys, xs = [.ref p] ∧ (SqL K H p ys ∨ SqT K H p ys) ∧ ∀ l, H l = none → Q (.ref l) (upd H l (.lst ys))
def rInt1 : List V → Hp → VK → Prop := fun xs H Q => (∃ i, xs = [.int i] ∧ Q (.int i) H) ∨ ∃ k, xs = [.bl k] ∧ Q (.int (if k then 1 else 0)) H
def rAbs1 : List V → Hp → VK → Prop := fun xs H Q => ∃ i, xs = [.int i] ∧ Q (.int (if i < 0 then -i else i)) H
def rBif (K : PySem.W.Frag) : Bif → List V → Hp → VK → Prop
  | .len => rLenA K
  | .sum => rSum K
  | .maxL => rMax K
  | .max2 => rI2 fun i j => if j > i then j else i
  | .minL => rMin K
  | .min2 => rI2 fun i j => if j < i then j else i
  | .any => rAny K
  | .all => rAll K
  | .sorted => rSortD K
  | .tuple => rTupA K
  | .list => fun xs H Q => rLstA K xs H Q ∨ rListR xs H Q
  | .abs => rAbs1
  | .int => rInt1
  | _ => fun _ _ _ => False
theorem cr_bif {X : Cx} (hc : X.calm = true) (hu : X.A.units + 70 < cLine) : ∀ f : Bif, CallR X (bifV f) (rBif X.K f)
  | .len => call_len
  | .sum => cr_sum hc
  | .maxL => cr_max hc
  | .max2 => call_max2 hc
  | .minL => cr_min hc
  | .min2 => call_min2 hc
  | .any => cr_any hc
  | .all => cr_all hc
  | .sorted => cr_sortD hu
  | .tuple => call_tuple_of
  | .list => call_list_of.or (call_listR hc)
  | .abs => call_abs
  | .int => call_int1
  | .sortSet => CallR.never
  | .lenSet => CallR.never
  | .tupRange => CallR.never
  | .lstRange => CallR.never
  | .str => CallR.never
  | .zipT => CallR.never

def RelNs (G : Gh) (H : Hp) : List D → List V → Prop
  | [], [] => True
  | d :: ds, v :: vs => RelN G H d v ∧ RelNs G H ds vs
  | _, _ => False
theorem RelNs.one {G : Gh} {H : Hp} {d : D} {vs : List V} (h : RelNs G H [d] vs) : ∃ v, vs = [v] ∧ RelN G H d v := by
  match vs, h with
  | [v], h => exact ⟨v, rfl, h.1⟩
theorem RelNs.two {G : Gh} {H : Hp} {d e : D} {vs : List V} (h : RelNs G H [d, e] vs) : ∃ v u, vs = [v, u] ∧ RelN G H d v ∧ RelN G H e u := by
  match vs, h with
  | [v, u], h => exact ⟨v, u, rfl, h.1, h.2.1⟩

theorem intsD_eq : ∀ {ds : List D} {ns : List Int}, intsD ds = some ns → ds = ns.map .int
  | [], ns, e => by simp only [intsD] at e; cases e; rfl
  | d :: ds, ns, e => by
    cases d <;> simp only [intsD] at e <;> first | cases e | skip
    cases q : intsD ds with
    | none => rw [q] at e; cases e
    | some ms => rw [q] at e; cases e; rw [intsD_eq q]; rfl
theorem boolsD_eq : ∀ {ds : List D} {ns : List Bool}, boolsD ds = some ns → ds = ns.map .bl
  | [], ns, e => by simp only [boolsD] at e; cases e; rfl
  | d :: ds, ns, e => by
    cases d <;> simp only [boolsD] at e <;> first | cases e | skip
    cases q : boolsD ds with
    | none => rw [q] at e; cases e
    | some ms => rw [q] at e; cases e; rw [boolsD_eq q]; rfl
theorem RelDs.intsV {G : Gh} : ∀ {ns : List Int} {vs : List V}, RelDs G (ns.map .int) vs → vs = ns.map .int
  | [], _, h => by cases h; rfl
  | n :: ns, _, h => by
    cases h with
    | cons a b => cases a; rw [RelDs.intsV b]; rfl
theorem RelDs.boolsV {G : Gh} : ∀ {ns : List Bool} {vs : List V}, RelDs G (ns.map .bl) vs → vs = ns.map .bl
  | [], _, h => by cases h; rfl
  | n :: ns, _, h => by
    cases h with
    | cons a b => cases a; rw [RelDs.boolsV b]; rfl
theorem maxI_spec : ∀ (ns : List Int) (m : Int), (maxI m ns = m ∨ maxI m ns ∈ ns) ∧ m ≤ maxI m ns ∧ ∀ n ∈ ns, n ≤ maxI m ns
  | [], m => ⟨.inl rfl, Int.le_refl _, fun _ h => by cases h⟩
  | x :: ns, m => by
    unfold maxI
    obtain ⟨h1, h2, h3⟩ := maxI_spec ns (if x > m then x else m)
    by_cases h : x > m
    · rw [if_pos h] at h1 h2 h3 ⊢
      refine ⟨.inr ?_, by omega, fun n hn => ?_⟩
      · rcases h1 with e | e
        · rw [e]; exact List.mem_cons_self
        · exact List.mem_cons_of_mem _ e
      · rcases List.mem_cons.mp hn with rfl | hn
        · exact h2
        · exact h3 n hn
    · rw [if_neg h] at h1 h2 h3 ⊢
      refine ⟨?_, h2, fun n hn => ?_⟩
      · rcases h1 with e | e
        · exact .inl e
        · exact .inr (List.mem_cons_of_mem _ e)
      · rcases List.mem_cons.mp hn with rfl | hn
        · omega
        · exact h3 n hn
theorem minI_spec : ∀ (ns : List Int) (m : Int), (minI m ns = m ∨ minI m ns ∈ ns) ∧ minI m ns ≤ m ∧ ∀ n ∈ ns, minI m ns ≤ n
  | [], m => ⟨.inl rfl, Int.le_refl _, fun _ h => by cases h⟩
  | x :: ns, m => by
    unfold minI
    obtain ⟨h1, h2, h3⟩ := minI_spec ns (if x < m then x else m)
    by_cases h : x < m
    · rw [if_pos h] at h1 h2 h3 ⊢
      refine ⟨.inr ?_, by omega, fun n hn => ?_⟩
      · rcases h1 with e | e
        · rw [e]; exact List.mem_cons_self
        · exact List.mem_cons_of_mem _ e
      · rcases List.mem_cons.mp hn with rfl | hn
        · exact h2
        · exact h3 n hn
    · rw [if_neg h] at h1 h2 h3 ⊢
      refine ⟨?_, h2, fun n hn => ?_⟩
      · rcases h1 with e | e
        · exact .inl e
        · exact .inr (List.mem_cons_of_mem _ e)
      · rcases List.mem_cons.mp hn with rfl | hn
        · omega
        · exact h3 n hn
theorem max_is {ns : List Int} {n m : Int} (h1 : m ∈ n :: ns) (h2 : ∀ y ∈ n :: ns, y ≤ m) : m = maxI n ns := by
  obtain ⟨a, b, c⟩ := maxI_spec ns n
  have e1 : maxI n ns ≤ m := h2 _ (by rcases a with e | e <;> simp [e])
  have e2 : m ≤ maxI n ns := by
    rcases List.mem_cons.mp h1 with rfl | h
    · exact b
    · exact c m h
  omega
theorem min_is {ns : List Int} {n m : Int} (h1 : m ∈ n :: ns) (h2 : ∀ y ∈ n :: ns, m ≤ y) : m = minI n ns := by
  obtain ⟨a, b, c⟩ := minI_spec ns n
  have e1 : m ≤ minI n ns := h2 _ (by rcases a with e | e <;> simp [e])
  have e2 : minI n ns ≤ m := by
    rcases List.mem_cons.mp h1 with rfl | h
    · exact b
    · exact c m h
  omega

section
variable {C : Ct} {B : Base} {G : Gh} {S : Sg} {σ : L2.St} {H : Hp} {K : PySem.W.Frag} {st : List SO}
theorem RelDs.zipped : ∀ {ds : List D} {vs : List V}, RelDs G ds vs → (ds.zip vs).map (·.1) = ds ∧ (ds.zip vs).map (·.2) = vs ∧ ∀ b ∈ ds.zip vs, RelD G b.1 b.2
  | _, _, .nil => ⟨rfl, rfl, fun _ h => by cases h⟩
  | _, _, .cons a b => by
    obtain ⟨h1, h2, h3⟩ := RelDs.zipped b
    refine ⟨by rw [List.zip_cons_cons, List.map_cons, h1], by rw [List.zip_cons_cons, List.map_cons, h2], fun b hb => ?_⟩
    rcases List.mem_cons.mp hb with rfl | hb
    · exact a
    · exact h3 b hb
theorem RelDs.of_zip : ∀ {bs : List (D × V)}, (∀ b ∈ bs, RelD G b.1 b.2) → RelDs G (bs.map (·.1)) (bs.map (·.2))
  | [], _ => .nil
  | b :: bs, h => .cons (h b List.mem_cons_self) (RelDs.of_zip fun b hb => h b (List.mem_cons_of_mem _ hb))
theorem sortOk_all {ds : List D} (h : sortOk ds = true) : (∀ d ∈ ds, d.plain = true ∧ d ≠ .non) ∧ ∀ a ∈ ds, ∀ b ∈ ds, PySem.W.alike (pyD a) (pyD b) = true := by
  unfold sortOk at h
  have h1 : ∀ a ∈ ds, a.plain = true ∧ ∀ b ∈ ds, PySem.W.alike (pyD a) (pyD b) = true ∧ a ≠ .non := fun a ha => by
    have q := List.all_eq_true.mp h a ha
    rw [Bool.and_eq_true] at q
    refine ⟨q.1, fun b hb => ?_⟩
    have q2 := List.all_eq_true.mp q.2 b hb
    rw [Bool.and_eq_true] at q2
    refine ⟨q2.1, fun z => ?_⟩
    subst z
    exact absurd q2.2 (by decide)
  exact ⟨fun d hd => ⟨(h1 d hd).1, ((h1 d hd).2 d hd).2⟩, fun a ha b hb => ((h1 a ha).2 b hb).1⟩
theorem pyD_non {d : D} (h : d.plain = true) (n : d ≠ .non) : pyD d ≠ .none := by
  have q := (plain_py h).1
  intro z
  rw [z] at q
  cases d <;> simp only [D.py] at q <;> first | (exact n rfl) | (cases q) | skip
  all_goals (rename_i xs; cases q2 : D.pys xs <;> rw [q2] at q <;> cases q)
theorem sort_map (bs : List (D × V)) : (bs.mergeSort (dataLe false fun b : D × V => pyD b.1)).map (·.1) = (bs.map (·.1)).mergeSort leD :=
  PySem.W.sort_maps (fun b : D × V => b.1) fun _ _ _ _ => rfl
theorem sortD_go {ds ys : List D} {vs : List V} {a : Addr} {Q : VK} (R : RR C.cl B G S σ H) (r : RelDs G ds vs) (l : ds.length ≤ LIM) (ha : H a = some (.lst vs)) (e : sortD ds = some ys)
    (k : ∀ G' H', G.Le G' → RR C.cl B G' S σ H' → ∀ w, RelRv B G' H' S.env σ (.own (.lst ys)) w → Q w H') : rSortD K [.ref a] H Q := by
  unfold sortD at e
  split at e
  · rename_i h
    cases e
    obtain ⟨h1, h2⟩ := sortOk_all h
    obtain ⟨z1, z2, z3⟩ := r.zipped
    have mem : ∀ b ∈ ds.zip vs, b.1 ∈ ds := fun b hb => by
      have : b.1 ∈ (ds.zip vs).map (·.1) := List.mem_map.mpr ⟨b, hb, rfl⟩
      rw [z1] at this; exact this
    refine ⟨a, ds.zip vs, rfl, by rw [z2]; exact SqL.of ha, fun b hb => (z3 b hb).dp R.h (plain_py (h1 _ (mem b hb)).1).1, ?_, fun b hb => ⟨pyD_non (h1 _ (mem b hb)).1 (h1 _ (mem b hb)).2, SeqAt.depth_of_shaped (plain_py (h1 _ (mem b hb)).1).2⟩, fun p hp => ?_⟩
    · intro d hd d' hd'
      obtain ⟨b, hb, rfl⟩ := List.mem_map.mp hd
      obtain ⟨b', hb', rfl⟩ := List.mem_map.mp hd'
      exact h2 _ (mem b hb) _ (mem b' hb')
    · have pm := List.mergeSort_perm (ds.zip vs) (dataLe false fun b : D × V => pyD b.1)
      have rel : RelDs G (((ds.zip vs).mergeSort (dataLe false fun b : D × V => pyD b.1)).map (·.1)) (((ds.zip vs).mergeSort (dataLe false fun b : D × V => pyD b.1)).map (·.2)) :=
        RelDs.of_zip fun b hb => z3 b (pm.mem_iff.mp hb)
      rw [sort_map, z1] at rel
      obtain ⟨g2, g3⟩ := R.own hp (m := .lst (ds.mergeSort leD)) (o := .lst (((ds.zip vs).mergeSort (dataLe false fun b : D × V => pyD b.1)).map (·.2))) ⟨rel, by rw [List.length_mergeSort]; exact l⟩
      exact k _ _ (.refl G) g2 _ g3
  · cases e
theorem mem_map_int {ns : List Int} {m : Int} : V.int m ∈ ns.map V.int ↔ m ∈ ns := by
  rw [List.mem_map]
  exact ⟨fun ⟨a, h, e⟩ => by cases e; exact h, fun h => ⟨m, h, rfl⟩⟩
/-- the built-ins that are called by values -/
def simpleB : Bif → Bool
  | .sortSet => false | .lenSet => false | .tupRange => false | .lstRange => false | .str => false | .zipT => false
  | _ => true
theorem bif_go (hz : ∀ a xs, C.cl.Z a xs → ∀ H, SqL K H a (xs.map .int)) {f : Bif} {ds : List D} {vs : List V} {r : Rv} {Q : VK} (R : RR C.cl B G S σ H) (rs : RelNs G H ds vs) (hf : simpleB f = true) (e : bifD f ds = some r)
    (k : ∀ G' H', G.Le G' → RR C.cl B G' S σ H' → ∀ w, RelRv B G' H' S.env σ r w → Q w H') : rBif K f vs H Q := by
  unfold bifD at e
  split at e
  · cases e
    obtain ⟨v, rfl, r1⟩ := rs.one
    obtain ⟨a, us, rfl, f1, h1, r2, l1⟩ := r1.tup R.h
    exact ⟨_, _, rfl, .inr ⟨us, SqT.of h1, rfl⟩, by rw [← r2.length]; exact k G H (.refl G) R _ (.int _)⟩
  · cases e
    obtain ⟨v, rfl, r1⟩ := rs.one
    obtain ⟨a, us, rfl, h1, r2, l1⟩ := r1.lst R.h
    exact ⟨_, _, rfl, .inl ⟨us, SqL.of h1, rfl⟩, by rw [← r2.length]; exact k G H (.refl G) R _ (.int _)⟩
  · rename_i xs
    cases e
    obtain ⟨v, rfl, r1⟩ := rs.one
    obtain ⟨a, rfl, h1⟩ := r1.scr R.h
    have h1 : SqL K H a (xs.map .int) := h1.elim (fun ⟨o, q⟩ => .inl (.inr ⟨o, q⟩)) fun z => hz a xs z H
    exact ⟨_, _, rfl, .inl ⟨_, h1, rfl⟩, by rw [List.length_map]; exact k G H (.refl G) R _ (.int _)⟩
  · split at e
    · rename_i x h
      cases e
      obtain ⟨v, rfl, r1⟩ := rs.one
      cases r1.str
      exact ⟨_, _, rfl, ⟨lim_le h, rfl⟩, k G H (.refl G) R _ (.int _)⟩
    · cases e
  · rename_i xs
    cases q : intsD xs with
    | none => rw [q] at e; cases e
    | some ns =>
      rw [q] at e; cases e
      rw [intsD_eq q] at rs
      obtain ⟨v, rfl, r1⟩ := rs.one
      obtain ⟨a, us, rfl, h1, r2, l1⟩ := r1.lst R.h
      rw [r2.intsV] at h1
      exact ⟨a, ns, rfl, SqL.of h1, k G H (.refl G) R _ (.int _)⟩
  · rename_i xs
    split at e
    · rename_i n ns q
      cases e
      rw [intsD_eq q] at rs
      obtain ⟨v, rfl, r1⟩ := rs.one
      obtain ⟨a, us, rfl, h1, r2, l1⟩ := r1.lst R.h
      rw [r2.intsV] at h1
      exact ⟨a, n :: ns, rfl, SqL.of h1, by simp, fun m hm hy => by rw [max_is hm hy]; exact k G H (.refl G) R _ (.int _)⟩
    · cases e
  · rename_i xs
    split at e
    · rename_i n ns q
      cases e
      rw [intsD_eq q] at rs
      obtain ⟨v, rfl, r1⟩ := rs.one
      obtain ⟨a, us, rfl, h1, r2, l1⟩ := r1.lst R.h
      rw [r2.intsV] at h1
      exact ⟨a, n :: ns, rfl, SqL.of h1, by simp, fun m hm hy => by rw [min_is hm hy]; exact k G H (.refl G) R _ (.int _)⟩
    · cases e
  · cases e
    obtain ⟨v, u, rfl, r1, r2⟩ := rs.two
    cases r1.int; cases r2.int
    exact ⟨_, _, rfl, k G H (.refl G) R _ (.int _)⟩
  · cases e
    obtain ⟨v, u, rfl, r1, r2⟩ := rs.two
    cases r1.int; cases r2.int
    exact ⟨_, _, rfl, k G H (.refl G) R _ (.int _)⟩
  · rename_i xs
    cases q : boolsD xs with
    | none => rw [q] at e; cases e
    | some ns =>
      rw [q] at e; cases e
      rw [boolsD_eq q] at rs
      obtain ⟨v, rfl, r1⟩ := rs.one
      obtain ⟨a, us, rfl, h1, r2, l1⟩ := r1.lst R.h
      rw [r2.boolsV] at h1
      exact ⟨a, ns, rfl, SqL.of h1, k G H (.refl G) R _ (.bl _)⟩
  · rename_i xs
    cases q : boolsD xs with
    | none => rw [q] at e; cases e
    | some ns =>
      rw [q] at e; cases e
      rw [boolsD_eq q] at rs
      obtain ⟨v, rfl, r1⟩ := rs.one
      obtain ⟨a, us, rfl, h1, r2, l1⟩ := r1.lst R.h
      rw [r2.boolsV] at h1
      exact ⟨a, ns, rfl, SqL.of h1, k G H (.refl G) R _ (.bl _)⟩
  · rename_i xs
    cases q : sortD xs with
    | none => rw [q] at e; cases e
    | some ys =>
      rw [q] at e; cases e
      obtain ⟨v, rfl, r1⟩ := rs.one
      obtain ⟨a, us, rfl, h1, r2, l1⟩ := r1.lst R.h
      exact sortD_go R r2 l1 h1 q k
  · cases hf
  · cases hf
  · cases e
    obtain ⟨v, rfl, r1⟩ := rs.one
    obtain ⟨a, us, rfl, h1, r2, l1⟩ := r1.lst R.h
    refine ⟨a, us, rfl, .inl ⟨SqL.of h1, fun p hp => ?_⟩⟩
    obtain ⟨g1, g2, g3⟩ := R.tup hp r2 l1
    exact k _ _ g1 g2 _ g3
  · cases e
    obtain ⟨v, rfl, r1⟩ := rs.one
    obtain ⟨a, us, rfl, f1, h1, r2, l1⟩ := r1.tup R.h
    exact ⟨a, us, rfl, .inr ⟨SqT.of h1, k G H (.refl G) R _ (.tup f1 r2 l1)⟩⟩
  · rename_i xs
    cases e
    obtain ⟨v, rfl, r1⟩ := rs.one
    obtain ⟨a, us, rfl, h1, r2, l1⟩ := r1.lst R.h
    refine .inl ⟨a, us, rfl, .inl (SqL.of h1), fun p hp => ?_⟩
    obtain ⟨g2, g3⟩ := R.own hp (m := .lst xs) (o := .lst us) ⟨r2, l1⟩
    exact k _ _ (.refl G) g2 _ g3
  · rename_i xs
    cases e
    obtain ⟨v, rfl, r1⟩ := rs.one
    obtain ⟨a, us, rfl, f1, h1, r2, l1⟩ := r1.tup R.h
    refine .inl ⟨a, us, rfl, .inr (SqT.of h1), fun p hp => ?_⟩
    obtain ⟨g2, g3⟩ := R.own hp (m := .lst xs) (o := .lst us) ⟨r2, l1⟩
    exact k _ _ (.refl G) g2 _ g3
  · rename_i ks ws
    cases e
    obtain ⟨v, rfl, r1⟩ := rs.one
    obtain ⟨a, kvs, rfl, h1, h2, r2, l1⟩ := r1.dct R.h
    have e1 : (kvs.map fun kv => kV kv.1) = ks.map V.int := by
      have e3 : (kvs.map fun kv => kV kv.1) = (kvs.map (·.1)).map kV := by rw [List.map_map]; rfl
      rw [e3, h2, List.map_map]; rfl
    refine .inr ⟨a, kvs, rfl, h1, fun p hp => ?_⟩
    have l2 : ks.length = ws.length := by
      have := congrArg List.length h2
      rw [List.length_map, List.length_map] at this
      rw [r2.length, List.length_map]; exact this.symm
    obtain ⟨g2, g3⟩ := R.own hp (m := .lst (ks.map .int)) (o := .lst (kvs.map fun kv => kV kv.1)) ⟨by rw [e1]; exact RelDs.ints ks, by rw [List.length_map, l2]; exact l1⟩
    exact k _ _ (.refl G) g2 _ g3
  · cases hf
  · cases hf
  · cases e
    obtain ⟨v, rfl, r1⟩ := rs.one
    cases r1.int
    exact ⟨_, rfl, k G H (.refl G) R _ (.int _)⟩
  · cases e
    obtain ⟨v, rfl, r1⟩ := rs.one
    cases r1.int
    exact .inl ⟨_, rfl, k G H (.refl G) R _ (.int _)⟩
  · cases e
    obtain ⟨v, rfl, r1⟩ := rs.one
    cases r1.bl
    exact .inr ⟨_, rfl, k G H (.refl G) R _ (.int _)⟩
  · cases e
end
end Tk
namespace Tk
open PySem L2 PySem.W

def RelRet (B : Base) (G : Gh) (H : Hp) : Rv → V → Prop
  | .val d, v => RelD G d v
  | .own m, v => ∃ a o, v = .ref a ∧ H a = some o ∧ RelMO G m o ∧ G.F a = none ∧ a ∉ G.r ∧ B.H a = none
def ent (H : Hp) (G : Gh) : Base := ⟨H, G.F, G.r⟩
def spF (cl : Cls) (xr : Exc → Value → Option Addr → Gh → Hp → Prop) (Φ : Fns) (f : String) (n : Nat) : Sp := fun vs H Q E => ∃ G st ds, RH cl (ent H G) G st H ∧ RelDs G ds vs ∧ ds.length = n ∧ match Φ f ds st with
  | .ret r st' => ∀ v H' G', G.Le G' → RH cl (ent H G) G' st' H' → RelRet (ent H G) G' H' r v → Q v H'
  | .exc x st' => ∀ cls d H' G', G.Le G' → RH cl (ent H G) G' st' H' → xr x cls d G' H' → E cls d H'
  | .no => False

section
variable {cl : Cls} {B : Base} {G G' : Gh} {S : Sg} {σ : L2.St} {H H' : Hp} {st st' : List SO}
theorem RH.entry (R : RH cl B G st H) : RH cl (ent H G) G st H where
  fr := fun a o e _ => e
  fh := R.fh
  fe := fun a u e => .inl e
  bf := fun a u e => e
  hz := R.hz
  re := ⟨[], by simp [ent], fun _ h => by cases h⟩
  nd := R.nd
  rf := R.rf
  len := R.len
  sto := R.sto
/-- behind a call -/
theorem RH.back (R : RH cl B G st H) (l : G.Le G') (q : RH cl (ent H G) G' st' H') : RH cl B G' st' H' where
  fr := fun a o e n => by
    obtain ⟨t, e1, e2⟩ := R.re
    refine q.fr a o (R.fr a o e n) fun z => ?_
    have z' : a ∈ G.r := z
    rw [e1] at z'
    rcases List.mem_append.mp z' with z | z
    · exact n z
    · rw [e2 a z] at e; cases e
  fh := q.fh
  fe := fun a u e => by
    rcases q.fe a u e with z | z
    · exact R.fe a u z
    · exact .inr (R.newB z)
  bf := fun a u e => q.bf a u (R.bf a u e)
  hz := q.hz
  re := by
    obtain ⟨t, e1, e2⟩ := R.re
    obtain ⟨u, f1, f2⟩ := q.re
    refine ⟨t ++ u, by rw [f1]; show G.r ++ u = _; rw [e1, List.append_assoc], fun a ha => ?_⟩
    rcases List.mem_append.mp ha with z | z
    · exact e2 a z
    · exact R.newB (f2 a z)
  nd := q.nd
  rf := q.rf
  len := q.len
  sto := q.sto
theorem RSl.back (R : RH cl B G st H) (s : RSl B G H S.env σ) (l : G.Le G') (q : RH cl (ent H G) G' st' H') : RSl B G' H' S.env σ where
  val := fun i d e => by
    obtain ⟨v, e1, r⟩ := s.val i d e
    exact ⟨v, e1, r.mono l⟩
  own := fun i m e => by
    obtain ⟨a, o, e1, e2, r, f1, f2, f3⟩ := s.own i m e
    refine ⟨a, o, e1, q.fr a o e2 f2, r.mono l, ?_, fun z => ?_, f3⟩
    · cases z : G'.F a with
      | none => rfl
      | some u =>
        rcases q.fe a u z with y | y
        · have y' : G.F a = some u := y
          rw [f1] at y'; cases y'
        · have y' : H a = none := y
          rw [e2] at y'; cases y'
    · obtain ⟨t, g1, g2⟩ := q.re
      rw [g1] at z
      rcases List.mem_append.mp z with y | y
      · exact f2 y
      · have y' : H a = none := g2 a y
        rw [e2] at y'; cases y'
  sep := s.sep
  len := s.len
theorem RR.back (R : RR cl B G S σ H) (l : G.Le G') (q : RH cl (ent H G) G' st' H') : RR cl B G' { S with st := st' } σ H' := ⟨R.h.back l q, R.s.back R.h l q⟩
theorem RelRet.back (R : RR cl B G S σ H) (q : RH cl (ent H G) G' st' H') {r : Rv} {v : V} (h : RelRet (ent H G) G' H' r v) : RelRv B G' H' S.env σ r v := by
  cases r with
  | val d => exact h
  | own m =>
    obtain ⟨a, o, e, e2, r, f1, f2, f3⟩ := h
    have f3' : H a = none := f3
    exact ⟨a, o, e, e2, r, f1, f2, R.h.newB f3', R.fresh f3'⟩
end

def bltNames : List Str := ["len", "sum", "max", "min", "any", "all", "sorted", "tuple", "list", "abs", "int", "range", "isinstance", "bool", "set", "zip", "str"]
/-- a def of the table as it stands -/
structure FnAt (X : Cx) (C : Ct) (Φ : Fns) (k : Nat) (f : String) (fd : Fd) : Prop where
  ex : ∃ (a : Addr) (fdat : FuncData) (ps : List Str), X.mg (Str.ofString f) = some (.ref a) ∧ PySem.W.keepIn X.K (.ref a) = true ∧ Binds X.K fdat ps [] ∧ ps.length = fd.ps ∧
    FnOk X.prog X.w X.K X.mg X.base (L2.CX X.prog X.w) k a fdat ps (spF C.cl C.xr Φ f fd.ps)
structure GX (X : Cx) (C : Ct) (T : String → Option Fd) (k : Nat) : Prop where
  calm : X.calm = true
  nd : X.N.Nodup
  room : Room k X.A
  blt : ∀ x ∈ bltNames, X.mg x = none
  fns : ∀ f fd, T f = some fd → FnAt X C (run T k) k f fd
  own : PassesOwn (model X.prog X.w) X.A X.env X.xe
  tk : Takes X C.W
  zz : ∀ a xs, C.cl.Z a xs → ∀ H, SqL X.K H a (xs.map .int)

def isGl (sc : Scope) (x : Str) : Bool := decide (sc.names.lookup x = some .globalImplicit)
def isVis (sc : Scope) (x : Str) : Bool := decide (sc.names.lookup x = some .local) || (decide (sc.names.lookup x = some .cell) || decide (sc.names.lookup x = some .free))
def isLoc (sc : Scope) (x : Str) : Bool := decide (sc.names.lookup x = some .local) || decide (sc.names.lookup x = some .cell)
theorem isGl_ok {X : Cx} {x : Str} (h : isGl X.env.scope x = true) : Gl X x := by
  unfold isGl at h
  have q := of_decide_eq_true h
  exact q
theorem isVis_ok {sc : Scope} {x : Str} (h : isVis sc x = true) : L2.Vis sc x := by
  simpa [isVis, L2.Vis] using h
theorem isLoc_ok {sc : Scope} {x : Str} (h : isLoc sc x = true) : L2.Loc sc x := by
  simpa [isLoc, L2.Loc] using h
def varOk (N : List Str) (sc : Scope) (i : Nat) (x : Str) : Bool := decide (N[i]? = some x) && (isVis sc x && (!(x == ("__debug__" : Str)) && !(x == ("__classdict__" : Str))))
def notSl : Expr → Bool
  | .Slice .. => false
  | _ => true
def notStar : Expr → Bool
  | .Starred .. => false
  | _ => true
def notSet : Expr → Bool
  | .Set .. => false
  | _ => true
def notComp : Expr → Bool
  | .ListComp .. => false | .SetComp .. => false | .DictComp .. => false
  | _ => true
def plainTest : Expr → Bool
  | .UnaryOp .. => false | .BoolOp .. => false | .IfExp .. => false | .Compare .. => false
  | _ => true
def notCall : Expr → Bool
  | .Call .. => false
  | _ => true
theorem notSl_ok {e : Expr} (h : notSl e = true) : PlainIx e := by
  intro o i
  cases e <;> first | (exact Bool.noConfusion (show false = true from h)) | rfl
theorem notSet_ok {e : Expr} (h : notSet e = true) (env : Env) (x : Value) : foldedSetIterable e env x = pure x := by
  cases e <;> first | (exact Bool.noConfusion (show false = true from h)) | rfl
theorem notSet_mark {e : Expr} (h : notSet e = true) (op : CmpOp) : behindInMarks op e = false := by
  cases e <;> first | (exact Bool.noConfusion (show false = true from h)) | rfl
theorem notStar_ok {e : Expr} (h : notStar e = true) (es : List Expr) (env : Env) : starEach (e :: es) env = (false, eval e env) :: starEach es env := by
  cases e <;> first | (exact Bool.noConfusion (show false = true from h)) | rfl
theorem notStars : ∀ {es : List Expr} (env : Env), es.all notStar = true → (starEach es env).any (·.1) = false
  | [], _, _ => rfl
  | e :: es, env, h => by
    rw [List.all_cons, Bool.and_eq_true] at h
    rw [notStar_ok h.1, List.any_cons, notStars env h.2]; rfl
theorem backTo_any (pos : Pos) (l : List (Bool × Sem Value)) : (backTo pos l).any (·.1) = l.any (·.1) := by
  unfold backTo
  rw [List.any_map]; rfl
theorem notStars_b {es : List Expr} (env : Env) (pos : Pos) (h : es.all notStar = true) : (backTo pos (starEach es env)).any (·.1) = false := by
  rw [backTo_any]; exact notStars env h
theorem plainTest_ok {e : Expr} (h : plainTest e = true) (env : Env) (whole : Sem Value) : isTrue e env whole = (do let v ← whole; standAt e.pos; holding [v] (truthy v)) := by
  cases e <;> first | (exact Bool.noConfusion (show false = true from h)) | rfl
theorem notComp_ok {e : Expr} (h : notComp e = true) (t : Option Expr) (l : Nat) (env : Env) : swapsWith e t l env = pure false := by
  cases e <;> first | (exact Bool.noConfusion (show false = true from h)) | rfl
theorem notCall_base {e : Expr} (h : notCall e = true) (n : Str) (env : Env) (w : Sem Value) : attributeBase e n env w = w := by
  cases e <;> first | (exact Bool.noConfusion (show false = true from h)) | rfl
end Tk
namespace Tk
open PySem L2 PySem.W

def tyN : Ty → Str
  | .int => "int" | .bool => "bool" | .tuple => "tuple" | .list => "list" | .str => "str"
def tyS : Ty → String
  | .int => "int" | .bool => "bool" | .tuple => "tuple" | .list => "list" | .str => "str"
/-- two lists go together -/
def chkAll {α β : Type} (f : α → β → Bool) : List α → List β → Bool
  | [], [] => true
  | a :: as, b :: bs => f a b && chkAll f as bs
  | _, _ => false
def isNone : Option Expr → Bool
  | none => true
  | some _ => false
def chkNs (f : Nat → Str → Bool) : List Nat → List Expr → Bool
  | [], [] => true
  | i :: is, .Name x _ :: es => f i x && chkNs f is es
  | _, _ => false
def okN (N : List Str) (sc : Scope) (vs : List Nat) (i : Nat) (x : Str) : Bool := decide (N[i]? = some x) && (isLoc sc x && decide (i ∈ vs))
/-- the names that an item goes to -/
def chkTgs (N : List Str) (sc : Scope) (is : List Nat) (t : Expr) (vs : List Nat) : Bool := match is, t with
  | [i], .Name x _ => okN N sc vs i x
  | is, .Tuple es _ _ => decide (2 ≤ is.length) && chkNs (okN N sc vs) is es
  | _, _ => false
mutual
def chkE (fs : String → Bool) : Nat → List Str → Scope → E → Expr → Bool
  | 0, _, _, _, _ => false
  | n + 1, N, sc, c, e => match c, e with
    | .var i, .Name x _ => varOk N sc i x
    | .non, .Constant .none _ _ => true
    | .bl b, .Constant (.bool b') _ _ => decide (b = b')
    | .int i, .Constant (.int j) _ _ => decide (i = j)
    | .str s, .Constant (.str x) _ _ => decide (x = Str.ofString s)
    | .tup es, .Tuple xs _ _ => chkAll (chkE fs n N sc) es xs && (xs.all notStar && decide (es.length ≤ LIM))
    | .lst es, .List xs _ => chkAll (chkE fs n N sc) es xs && (xs.all notStar && decide (es.length ≤ LIM))
    | .bin op a b, .BinOp x o y _ => decide (o = bopOf op) && (chkE fs n N sc a x && chkE fs n N sc b y)
    | .neg a, .UnaryOp .USub x _ => chkE fs n N sc a x
    | .cmp op a b, .Compare x [o] [y] _ => decide (o = copOf op) && (chkE fs n N sc a x && (chkE fs n N sc b y && notSet y))
    | .isN a, .Compare x [.Is] [.Constant .none _ _] _ => chkE fs n N sc a x
    | .notN a, .Compare x [.IsNot] [.Constant .none _ _] _ => chkE fs n N sc a x
    | .chain o1 o2 a b c, .Compare x [p, q] [y, z] _ => decide (p = copOf o1) && (decide (q = copOf o2) && (chkE fs n N sc a x && (chkE fs n N sc b y && (chkE fs n N sc c z && (notSet y && notSet z)))))
    | .not a, .UnaryOp .Not x _ => chkE fs n N sc a x
    | .and a b, .BoolOp .And (x :: y :: ys) p => chkE fs n N sc a x && (if ys.isEmpty then chkE fs n N sc b y else chkE fs n N sc b (.BoolOp .And (y :: ys) p))
    | .or a b, .BoolOp .Or (x :: y :: ys) p => chkE fs n N sc a x && (if ys.isEmpty then chkE fs n N sc b y else chkE fs n N sc b (.BoolOp .Or (y :: ys) p))
    | .ife t a b, .IfExp x y z _ => chkT fs n N sc t x && (chkE fs n N sc a y && chkE fs n N sc b z)
    | .slc a lo hi, .Subscript x (.Slice l h none _) _ => chkE fs n N sc a x && (chkO fs n N sc lo l && chkO fs n N sc hi h)
    | .idx a i, .Subscript x y _ => chkE fs n N sc a x && (chkE fs n N sc i y && notSl y)
    | .call f es, .Call (.Name x _) (y :: ys) [] _ => decide (x = Str.ofString f) && (fs f && (isGl sc x && (!(x == ("__debug__" : Str)) && (chkAll (chkE fs n N sc) es (y :: ys) && (y :: ys).all notStar))))
    | .bif .tupRange [a], .Call (.Name t _) [.Call (.Name r _) [x] [] _] [] _ => decide (t = "tuple") && (decide (r = "range") && (isGl sc t && (isGl sc r && (chkE fs n N sc a x && notStar x))))
    | .bif .lstRange [a], .Call (.Name t _) [.Call (.Name r _) [x] [] _] [] _ => decide (t = "list") && (decide (r = "range") && (isGl sc t && (isGl sc r && (chkE fs n N sc a x && notStar x))))
    | .bif f es, .Call (.Name x _) (y :: ys) [] _ => simpleB f && (decide (x = bifN f) && (isGl sc x && (chkAll (chkE fs n N sc) es (y :: ys) && (y :: ys).all notStar)))
    | .isi a t, .Call (.Name x _) [y, .Name z _] [] _ => decide (x = "isinstance") && (decide (z = tyN t) && (isGl sc x && (isGl sc z && (chkE fs n N sc a y && notStar y))))
    | .dct0, .Dict [] [] _ => true
    | .val c, e => chkE fs n N sc c e
    | .mk c, e => chkE fs n N sc c e
    | .lc vs elt tg rg it cond, .ListComp x [⟨t, i, ifs, 0⟩] scope _ => blkC N sc scope (vs.map fun v => (N.getD v "", v)) &&
        (chkTgs N scope tg t vs && (chkI fs n N sc rg it i && (chkE fs n N (relS scope sc) elt x && (match cond, ifs with
          | none, [] => true
          | some c, [y] => chkT fs n N (relS scope sc) c y
          | _, _ => false))))
    | _, _ => false
def chkT (fs : String → Bool) : Nat → List Str → Scope → E → Expr → Bool
  | 0, _, _, _, _ => false
  | n + 1, N, sc, c, e => match c, e with
    | .not a, .UnaryOp .Not x _ => chkT fs n N sc a x
    | .and a b, .BoolOp .And (x :: y :: ys) p => chkT fs n N sc a x && (if ys.isEmpty then chkT fs n N sc b y else chkT fs n N sc b (.BoolOp .And (y :: ys) p))
    | .or a b, .BoolOp .Or (x :: y :: ys) p => chkT fs n N sc a x && (if ys.isEmpty then chkT fs n N sc b y else chkT fs n N sc b (.BoolOp .Or (y :: ys) p))
    | .cmp op a b, .Compare x [o] [y] _ => decide (o = copOf op) && (chkE fs n N sc a x && (chkE fs n N sc b y && notSet y))
    | .isN a, .Compare x [.Is] [.Constant .none _ _] _ => chkE fs n N sc a x
    | .notN a, .Compare x [.IsNot] [.Constant .none _ _] _ => chkE fs n N sc a x
    | .chain o1 o2 a b c, .Compare x [p, q] [y, z] _ => decide (p = copOf o1) && (decide (q = copOf o2) && (chkE fs n N sc a x && (chkE fs n N sc b y && (chkE fs n N sc c z && (notSet y && notSet z)))))
    | .truth a, x => plainTest x && chkE fs n N sc a x
    | _, _ => false
def chkO (fs : String → Bool) : Nat → List Str → Scope → Option E → Option Expr → Bool
  | 0, _, _, _, _ => false
  | n + 1, N, sc, c, e => match c, e with
    | none, none => true
    | some c, some e => chkE fs n N sc c e
    | _, _ => false
/-- what is walked -/
def chkI (fs : String → Bool) : Nat → List Str → Scope → Bool → E → Expr → Bool
  | 0, _, _, _, _, _ => false
  | n + 1, N, sc, rg, c, e => match rg, e with
    | true, .Call (.Name r _) [x] [] _ => decide (r = "range") && (isGl sc r && (chkE fs n N sc c x && notStar x))
    | true, _ => false
    | false, e => notSet e && chkE fs n N sc c e
end
end Tk
namespace Tk
open PySem L2 PySem.W

/-- the reading of a test -/
def tT (C : Ct) (Φ : Fns) (c : E) : TT := fun σ H Q => ∃ B G S, RR C.cl B G S σ H ∧ Aft C B G σ (evX Φ c S) fun r _ _ H' => match r with
  | .val (.bl b) => Q b H'
  | _ => False
/-- .. of operands -/
def tAH (C : Ct) (Φ : Fns) : List E → TA
  | [] => tNil
  | c :: cs => tCons (tH C Φ c) (tAH C Φ cs)
/-- .. of values for a call -/
def tF (C : Ct) (Φ : Fns) (c : E) : TE := fun σ H Q => ∃ B G S, RR C.cl B G S σ H ∧ Aft C B G σ (evX Φ c S) fun r G' S' H' => ∀ G'' v, G'.Le G'' → RR C.cl B G'' S' σ H' → RelD G'' r.frz v → Q v H'

section
variable {X : Cx} {C : Ct} {Φ : Fns} {B : Base} {G : Gh} {S : Sg} {σ : L2.St} {H : Hp} {p : Pos}
theorem RR.frzSlot {cl : Cls} {i : Nat} {m : MO} (R : RR cl B G S σ H) (h : S.env[i]? = some (.own m)) :
    ∃ G' v, G.Le G' ∧ RR cl B G' { S with env := S.env.set i (.val m.frz) } σ H ∧ σ[i]? = some (some v) ∧ RelD G' m.frz v := by
  obtain ⟨a, o, e1, e2, r, hf, hr, hb⟩ := R.s.own i m h
  have hi : i < S.env.length := (List.getElem?_eq_some_iff.mp h).1
  have hrel : RelD (G.add a o) m.frz (.ref a) := (r.mono (Gh.add_le hf o)).frz (show upd G.F a o a = _ from upd_same)
  have ne : ∀ (j : Nat) (m' : MO), (S.env.set i (.val m.frz))[j]? = some (.own m') → j ≠ i ∧ S.env[j]? = some (.own m') := fun j m' q => by
    by_cases z : i = j
    · subst z
      rw [List.getElem?_set_self hi] at q; cases q
    · rw [List.getElem?_set_ne z] at q
      exact ⟨fun y => z y.symm, q⟩
  refine ⟨G.add a o, .ref a, Gh.add_le hf o, ⟨R.h.add e2 hf hr hb, ⟨fun j d q => ?_, fun j m' q => ?_, fun j j' m1 m2 b q1 q2 => ?_, by simpa using R.s.len⟩⟩, e1, hrel⟩
  · by_cases z : i = j
    · subst z
      have q' : (S.env.set i (.val m.frz))[i]? = some (.val d) := q
      rw [List.getElem?_set_self hi] at q'
      cases q'
      exact ⟨_, e1, hrel⟩
    · have q' : (S.env.set i (.val m.frz))[j]? = some (.val d) := q
      rw [List.getElem?_set_ne z] at q'
      obtain ⟨v, g1, g2⟩ := R.s.val j d q'
      exact ⟨v, g1, g2.mono (Gh.add_le hf o)⟩
  · obtain ⟨z, q'⟩ := ne j m' q
    obtain ⟨b, u, g1, g2, g3, g4, g5, g6⟩ := R.s.own j m' q'
    refine ⟨b, u, g1, g2, g3.mono (Gh.add_le hf o), ?_, g5, g6⟩
    show upd G.F a o b = none
    rw [upd_ne (fun y => by subst y; exact z (R.s.sep j i m' m b q' h g1 e1))]; exact g4
  · exact R.s.sep j j' m1 m2 b (ne j m1 q1).2 (ne j' m2 q2).2
theorem var_go {i : Nat} {Q : VK} (h : tX C Φ (.var i) σ H Q) : tVar i σ H Q := by
  obtain ⟨B, G, S, R, h⟩ := h
  simp only [evX] at h
  split at h
  · rename_i d q
    obtain ⟨v, e1, r⟩ := R.s.val i d q
    exact ⟨v, e1, Aft.ok h G H (.refl G) R v r⟩
  · rename_i m q
    obtain ⟨G', v, l, R', e1, r⟩ := R.frzSlot q
    exact ⟨v, e1, Aft.ok h G' H l R' v r⟩
  · exact h.elim
theorem snd_var {x : Str} {i : Nat} (h : varOk X.N X.env.scope i x = true) : PE X (.Name x p) (tVar i) := by
  simp only [varOk, Bool.and_eq_true, decide_eq_true_eq, Bool.not_eq_true'] at h
  exact pe_var h.1 (isVis_ok h.2.1) h.2.2.1 h.2.2.2
theorem snd_varX {x : Str} {i : Nat} (h : varOk X.N X.env.scope i x = true) : PE X (.Name x p) (tX C Φ (.var i)) := imp (snd_var h) fun _ _ _ => var_go
theorem snd_non {j : Nat} : PE X (.Constant .none j p) (tX C Φ .non) := imp pe_non fun σ H Q ⟨B, G, S, R, h⟩ => by
  simp only [evX] at h
  exact Aft.ok h G H (.refl G) R _ .non
theorem snd_bl {j : Nat} {b : Bool} : PE X (.Constant (.bool b) j p) (tX C Φ (.bl b)) := imp pe_bl fun σ H Q ⟨B, G, S, R, h⟩ => by
  simp only [evX] at h
  exact Aft.ok h G H (.refl G) R _ (.bl b)
theorem snd_int {j : Nat} {i : Int} : PE X (.Constant (.int i) j p) (tX C Φ (.int i)) := imp pe_int fun σ H Q ⟨B, G, S, R, h⟩ => by
  simp only [evX] at h
  exact Aft.ok h G H (.refl G) R _ (.int i)
theorem snd_str {j : Nat} {s : String} : PE X (.Constant (.str (Str.ofString s)) j p) (tX C Φ (.str s)) := imp pe_str fun σ H Q ⟨B, G, S, R, h⟩ => by
  simp only [evX] at h
  exact Aft.ok h G H (.refl G) R _ (.str _)

/-- the answer of an expression as a value that never changes -/
theorem frz_go {c : E} {K : Rv → Gh → Sg → Hp → Prop} (R : RR C.cl B G S σ H) (h : Aft C B G σ (evX Φ c S) K) :
    tX C Φ c σ H fun v H' => ∃ r G' S', G.Le G' ∧ RR C.cl B G' S' σ H' ∧ RelD G' r.frz v ∧ K r G' S' H' := by
  refine ⟨B, G, S, R, ?_⟩
  generalize evX Φ c S = o at h ⊢
  cases o with
  | ok r S1 =>
    intro G1 H1 l1 R1 v rv
    obtain ⟨G2, l2, R2, rd⟩ := R1.freeze rv
    exact ⟨r, G2, S1, l1.trans l2, R2, rd, h G2 H1 (l1.trans l2) R2⟩
  | ex x S1 => exact h
  | no => exact h
/-- the answer of an expression -/
theorem val_go {c : E} {K : Rv → Gh → Sg → Hp → Prop} (R : RR C.cl B G S σ H) (h : Aft C B G σ (evX Φ c S) K) :
    tX C Φ c σ H fun v H' => ∃ r G' S', G.Le G' ∧ RR C.cl B G' S' σ H' ∧ RelRv B G' H' S'.env σ r v ∧ K r G' S' H' :=
  ⟨B, G, S, R, h.mono fun r G' S' H' l R' k v rv => ⟨r, G', S', l, R', rv, k⟩⟩

def tXL (C : Ct) (Φ : Fns) : List E → TA
  | [] => tNil
  | c :: cs => tCons (tX C Φ c) (tXL C Φ cs)
theorem tXL.mono : ∀ {es : List E} {H : Hp} {Q Q' : List V → Hp → Prop}, tXL C Φ es σ H Q → (∀ vs H', Q vs H' → Q' vs H') → tXL C Φ es σ H Q'
  | [], H, _, _, h, f => f [] H h
  | c :: cs, H, _, _, h, f => tX.mono h fun v H1 q => tXL.mono (es := cs) q fun vs H2 k => f (v :: vs) H2 k
theorem tAH.mono : ∀ {es : List E} {H : Hp} {Q Q' : List V → Hp → Prop}, tAH C Φ es σ H Q → (∀ vs H', Q vs H' → Q' vs H') → tAH C Φ es σ H Q'
  | [], H, _, _, h, f => f [] H h
  | c :: cs, H, _, _, h, f => tH.mono h fun v H1 q => tAH.mono (es := cs) q fun vs H2 k => f (v :: vs) H2 k
theorem L_go : ∀ {es : List E} {G : Gh} {S : Sg} {H : Hp} {K : List D → Gh → Sg → Hp → Prop}, RR C.cl B G S σ H → Aft C B G σ (evL Φ es S) K →
    tXL C Φ es σ H fun vs H' => ∃ ds G' S', G.Le G' ∧ RR C.cl B G' S' σ H' ∧ RelDs G' ds vs ∧ ds.length = es.length ∧ K ds G' S' H'
  | [], G, S, H, K, R, h => by
    simp only [evL] at h
    exact ⟨[], G, S, .refl G, R, .nil, rfl, Aft.ok h G H (.refl G) R⟩
  | c :: es, G, S, H, K, R, h => by
    simp only [evL] at h
    refine tX.mono (frz_go R (Aft.bind h)) fun v H1 ⟨r, G1, S1, l1, R1, rd, h1⟩ => ?_
    refine tXL.mono (L_go R1 (Aft.bind h1)) fun vs H2 ⟨ds, G2, S2, l2, R2, rds, hl, h2⟩ => ?_
    exact ⟨r.frz :: ds, G2, S2, l1.trans l2, R2, .cons (rd.mono l2) rds, by simp [hl], Aft.ok h2 G2 H2 (.refl G2) R2⟩
def RelHs (G : Gh) (σ : L2.St) : List Hd → List V → Prop
  | [], [] => True
  | h :: hs, v :: vs => RelHd G σ h v ∧ RelHs G σ hs vs
  | _, _ => False
theorem RelHs.mono {G' : Gh} (l : G.Le G') : ∀ {hs : List Hd} {vs : List V}, RelHs G σ hs vs → RelHs G' σ hs vs
  | [], [], _ => trivial
  | _ :: _, _ :: _, h => ⟨h.1.mono l, RelHs.mono l h.2⟩
  | [], _ :: _, h => h.elim
  | _ :: _, [], h => h.elim
theorem H_go : ∀ {es : List E} {G : Gh} {S : Sg} {H : Hp} {K : List Hd → Gh → Sg → Hp → Prop}, RR C.cl B G S σ H → Aft C B G σ (evH Φ es S) K →
    tAH C Φ es σ H fun vs H' => ∃ hs G' S', G.Le G' ∧ RR C.cl B G' S' σ H' ∧ RelHs G' σ hs vs ∧ K hs G' S' H'
  | [], G, S, H, K, R, h => by
    simp only [evH] at h
    exact ⟨[], G, S, .refl G, R, trivial, Aft.ok h G H (.refl G) R⟩
  | c :: es, G, S, H, K, R, h => by
    simp only [evH] at h
    refine tH.mono (hd_go R (Aft.bind h)) fun v H1 ⟨x, G1, S1, l1, R1, rd, h1⟩ => ?_
    refine tAH.mono (H_go R1 (Aft.bind h1)) fun vs H2 ⟨ds, G2, S2, l2, R2, rds, h2⟩ => ?_
    exact ⟨x :: ds, G2, S2, l1.trans l2, R2, ⟨rd.mono l2, rds⟩, Aft.ok h2 G2 H2 (.refl G2) R2⟩
theorem rdHs_rel (R : RR C.cl B G S σ H) : ∀ {hs : List Hd} {vs : List V} {ds : List D}, RelHs G σ hs vs → rdHs S hs = some ds → RelNs G H ds vs
  | [], [], ds, _, e => by simp only [rdHs] at e; cases e; trivial
  | h :: hs, v :: vs, ds, r, e => by
    simp only [rdHs] at e
    cases q1 : rdH S h with
    | none => rw [q1] at e; simp at e
    | some d =>
      cases q2 : rdHs S hs with
      | none => rw [q1, q2] at e; simp at e
      | some ds' =>
        rw [q1, q2] at e; cases e
        exact ⟨rdH_rel R r.1 q1, rdHs_rel R r.2 q2⟩
  | [], _ :: _, _, h, _ => h.elim
  | _ :: _, [], _, h, _ => h.elim

theorem pa_X {f : E → Expr → Bool} (h : ∀ c e, f c e = true → PE X e (tX C Φ c)) : ∀ {es : List E} {xs : List Expr}, chkAll f es xs = true → xs.all notStar = true → PA X xs (tXL C Φ es)
  | [], [], _, _ => pa_nil
  | c :: es, x :: xs, hc, hs => by
    rw [chkAll, Bool.and_eq_true] at hc
    rw [List.all_cons, Bool.and_eq_true] at hs
    exact pa_cons (h c x hc.1) (pa_X h hc.2 hs.2) (notStar_ok hs.1 _ _)
  | [], _ :: _, hc, _ => by simp [chkAll] at hc
  | _ :: _, [], hc, _ => by simp [chkAll] at hc
theorem pa_H {f : E → Expr → Bool} (h : ∀ c e, f c e = true → PE X e (tH C Φ c)) : ∀ {es : List E} {xs : List Expr}, chkAll f es xs = true → xs.all notStar = true → PA X xs (tAH C Φ es)
  | [], [], _, _ => pa_nil
  | c :: es, x :: xs, hc, hs => by
    rw [chkAll, Bool.and_eq_true] at hc
    rw [List.all_cons, Bool.and_eq_true] at hs
    exact pa_cons (h c x hc.1) (pa_H h hc.2 hs.2) (notStar_ok hs.1 _ _)
  | [], _ :: _, hc, _ => by simp [chkAll] at hc
  | _ :: _, [], hc, _ => by simp [chkAll] at hc

section
variable {m : MO} {a : Addr} {cl : Cls}
def Gh.push (G : Gh) (a : Addr) : Gh := { G with r := G.r ++ [a] }
theorem Gh.push_le (G : Gh) (a : Addr) : G.Le (G.push a) := ⟨fun _ _ h => h, rfl, [a], rfl⟩
/-- .. goes into the store -/
theorem RR.push (R : RR cl B G S σ H) (r : RelRv B G H S.env σ (.own m) (.ref a)) : RR cl B (G.push a) { S with st := S.st ++ [.mo m] } σ H ∧ RelD (G.push a) (.ref S.st.length) (.ref a) := by
  obtain ⟨a', o, z, e2, r, f1, f2, f3, no⟩ := r
  cases z
  have l := G.push_le a
  refine ⟨⟨⟨R.h.fr, R.h.fh, R.h.fe, R.h.bf, R.h.hz, ?_, ?_, fun b hb => ?_, ?_, fun n o1 e => ?_⟩, ⟨fun i d e => ?_, fun i m1 e => ?_, R.s.sep, R.s.len⟩⟩, ?_⟩
  · obtain ⟨t, e1, e2⟩ := R.h.re
    refine ⟨t ++ [a], by show G.r ++ [a] = _; rw [e1, List.append_assoc], fun b hb => ?_⟩
    rcases List.mem_append.mp hb with z | z
    · exact e2 b z
    · cases List.mem_singleton.mp z; exact f3
  · show (G.r ++ [a]).Nodup
    rw [List.nodup_append]
    exact ⟨R.h.nd, by simp, fun x hx y hy z => by subst z; cases List.mem_singleton.mp hy; exact f2 hx⟩
  · rcases List.mem_append.mp hb with z | z
    · exact R.h.rf b z
    · cases List.mem_singleton.mp z; exact f1
  · show (S.st ++ [_]).length = (G.r ++ [a]).length
    simp [R.h.len]
  · have e' : (S.st ++ [.mo m])[n]? = some o1 := e
    by_cases hn : n < S.st.length
    · rw [List.getElem?_append_left hn] at e'
      obtain ⟨b, e1, q⟩ := R.h.sto n o1 e'
      exact ⟨b, l.get e1, q.mono l⟩
    · rw [List.getElem?_append_right (by omega)] at e'
      have hz : n - S.st.length = 0 := by
        have := (List.getElem?_eq_some_iff.mp e').1
        simp at this; omega
      rw [hz] at e'
      cases e'
      refine ⟨a, ?_, o, e2, r.mono l⟩
      show (G.r ++ [a])[n]? = some a
      rw [List.getElem?_append_right (by rw [← R.h.len]; omega), ← R.h.len, hz]; rfl
  · obtain ⟨u, e1, q⟩ := R.s.val i d e
    exact ⟨u, e1, q.mono l⟩
  · obtain ⟨b, o1, e1, g2, q, g3, g4, g5⟩ := R.s.own i m1 e
    refine ⟨b, o1, e1, g2, q.mono l, g3, fun z => ?_, g5⟩
    rcases List.mem_append.mp z with y | y
    · exact g4 y
    · cases List.mem_singleton.mp y; exact no i m1 e e1
  · refine .ref ?_
    show (G.r ++ [a])[S.st.length]? = some a
    rw [List.getElem?_append_right (by rw [R.h.len]; exact Nat.le_refl _), R.h.len, Nat.sub_self]; rfl
end
theorem mk_imp {c : E} {Q : VK} (h : tX C Φ (.mk c) σ H Q) : tX C Φ c σ H Q := by
  obtain ⟨B, G, S, R, q⟩ := h
  simp only [evX] at q
  refine tX.mono (val_go R (Aft.bind q)) fun v H1 ⟨r, G1, S1, l1, R1, rv, k1⟩ => ?_
  cases r with
  | val d => exact k1.elim
  | own m =>
    have rv' := rv
    obtain ⟨a, o, rfl, _⟩ := rv'
    obtain ⟨R2, r2⟩ := R1.push rv
    exact k1 _ H1 (G1.push_le a) R2 _ r2
theorem val_imp {c : E} {Q : VK} (h : tX C Φ (.val c) σ H Q) : tX C Φ c σ H Q := by
  obtain ⟨B, G, S, R, q⟩ := h
  simp only [evX] at q
  refine tX.mono (frz_go R (Aft.bind q)) fun v H1 ⟨r, G1, S1, l1, R1, rd, k1⟩ => ?_
  exact k1 G1 H1 (.refl G1) R1 v rd
theorem snd_tup {es : List E} {xs : List Expr} {k : Nat} (h : PA X xs (tXL C Φ es)) (hl : es.length ≤ LIM) : PE X (.Tuple xs k p) (tX C Φ (.tup es)) := imp (pe_tup h) fun σ H Q ⟨B, G, S, R, q⟩ => by
  simp only [evX] at q
  refine tXL.mono (L_go R (Aft.bind q)) fun vs H1 ⟨ds, G1, S1, l1, R1, r1, e1, k1⟩ => ?_
  refine ⟨by rw [← r1.length, e1]; exact lim_le hl, fun a ha => ?_⟩
  obtain ⟨g1, g2, g3⟩ := R1.tup ha r1 (by rw [e1]; exact hl)
  exact Aft.ok k1 _ _ g1 g2 _ g3
theorem snd_lst {es : List E} {xs : List Expr} (h : PA X xs (tXL C Φ es)) (hl : es.length ≤ LIM) : PE X (.List xs p) (tX C Φ (.lst es)) := imp (pe_lst h) fun σ H Q ⟨B, G, S, R, q⟩ => by
  simp only [evX] at q
  refine tXL.mono (L_go R (Aft.bind q)) fun vs H1 ⟨ds, G1, S1, l1, R1, r1, e1, k1⟩ => ?_
  refine ⟨by rw [← r1.length, e1]; exact lim_le hl, fun a ha => ?_⟩
  obtain ⟨g2, g3⟩ := R1.own ha (m := .lst ds) (o := .lst vs) ⟨r1, by rw [e1]; exact hl⟩
  exact Aft.ok k1 _ _ (.refl G1) g2 _ g3
theorem snd_bin {op : Bop} {a b : E} {x y : Expr} (ha : PE X x (tH C Φ a)) (hb : PE X y (tH C Φ b)) : PE X (.BinOp x (bopOf op) y p) (tX C Φ (.bin op a b)) := imp (pe_op (opr_bin op) ha hb) fun σ H Q ⟨B, G, S, R, q⟩ => by
  simp only [evX] at q
  refine tH.mono (hd_go R (Aft.bind q)) fun v H1 ⟨h1, G1, S1, l1, R1, r1, k1⟩ => ?_
  refine tH.mono (hd_go R1 (Aft.bind k1)) fun u H2 ⟨h2, G2, S2, l2, R2, r2, k2⟩ => ?_
  obtain ⟨r, e, k3⟩ := Aft.opt k2
  obtain ⟨d1, d2, e1, e2, e3⟩ := rdHs2 e
  exact bin_go R2 (rdH_rel R2 (r1.mono l2) e1) (rdH_rel R2 r2 e2) e3 k3
theorem snd_cmp {op : Cop} {a b : E} {x y : Expr} (hu : X.A.units + 65 < cLine) (ha : PE X x (tH C Φ a)) (hb : PE X y (tH C Φ b)) (hs : notSet y = true) : PE X (.Compare x [copOf op] [y] p) (tX C Φ (.cmp op a b)) :=
  imp (pe_cmpR (opr_cmp hu op) ha hb (notSet_mark hs _)) fun σ H Q ⟨B, G, S, R, q⟩ => by
  simp only [evX] at q
  refine tH.mono (hd_go R (Aft.bind q)) fun v H1 ⟨h1, G1, S1, l1, R1, r1, k1⟩ => ?_
  refine tH.mono (hd_go R1 (Aft.bind k1)) fun u H2 ⟨h2, G2, S2, l2, R2, r2, k2⟩ => ?_
  obtain ⟨r, e, k3⟩ := Aft.opt k2
  obtain ⟨d1, d2, e1, e2, e3⟩ := rdHs2 e
  simp only [Option.map_eq_some_iff] at e3
  obtain ⟨c, e4, rfl⟩ := e3
  exact cmp_go R2.h (rdH_rel R2 (r1.mono l2) e1) (rdH_rel R2 r2 e2) e4 (k3 G2 H2 (.refl G2) R2 _ (.bl c))
theorem snd_cmpT {op : Cop} {a b : E} {x y : Expr} (hu : X.A.units + 65 < cLine) (ha : PE X x (tH C Φ a)) (hb : PE X y (tH C Φ b)) (hs : notSet y = true) : PT X (.Compare x [copOf op] [y] p) (tT C Φ (.cmp op a b)) :=
  impT (pt_cmpR (opr_cmp hu op) ha hb (notSet_mark hs _)) fun σ H Q ⟨B, G, S, R, q⟩ => by
  simp only [evX] at q
  refine tH.mono (hd_go R (Aft.bind q)) fun v H1 ⟨h1, G1, S1, l1, R1, r1, k1⟩ => ?_
  refine tH.mono (hd_go R1 (Aft.bind k1)) fun u H2 ⟨h2, G2, S2, l2, R2, r2, k2⟩ => ?_
  obtain ⟨r, e, k3⟩ := Aft.opt k2
  obtain ⟨d1, d2, e1, e2, e3⟩ := rdHs2 e
  simp only [Option.map_eq_some_iff] at e3
  obtain ⟨c, e4, rfl⟩ := e3
  exact cmp_go R2.h (rdH_rel R2 (r1.mono l2) e1) (rdH_rel R2 r2 e2) e4 ⟨c, rfl, k3 G2 H2 (.refl G2) R2⟩
end
end Tk
namespace Tk
open PySem L2 PySem.W
section
variable {X : Cx} {C : Ct} {Φ : Fns} {B : Base} {G : Gh} {S : Sg} {σ : L2.St} {H : Hp} {p : Pos}
def D.isNon : D → Bool
  | .non => true
  | _ => false
theorem RelN.isNon {d : D} {v : V} (r : RelN G H d v) : decide (v = V.non) = d.isNon := by
  rcases r with r | ⟨a, o, m, rfl, rfl, _, _⟩
  · cases r <;> rfl
  · cases m <;> rfl
theorem snd_isN {a : E} {x : Expr} {j : Nat} {p2 : Pos} (ha : PE X x (tH C Φ a)) : PE X (.Compare x [.Is] [.Constant .none j p2] p) (tX C Φ (.isN a)) :=
  imp (pe_cmpR op_isN ha pe_non (nomark _)) fun σ H Q ⟨B, G, S, R, q⟩ => by
  simp only [evX] at q
  refine tH.mono (hd_go R (Aft.bind q)) fun v H1 ⟨h1, G1, S1, l1, R1, r1, k1⟩ => ?_
  obtain ⟨r, e, k3⟩ := Aft.opt k1
  simp only [Option.map_eq_some_iff] at e
  obtain ⟨d, e4, rfl⟩ := e
  refine ⟨rfl, ?_⟩
  rw [(rdH_rel R1 r1 e4).isNon]
  refine k3 G1 H1 (.refl G1) R1 _ ?_
  cases d <;> exact .bl _
theorem snd_isNT {a : E} {x : Expr} {j : Nat} {p2 : Pos} (ha : PE X x (tH C Φ a)) : PT X (.Compare x [.Is] [.Constant .none j p2] p) (tT C Φ (.isN a)) :=
  impT (pt_cmpR op_isN ha pe_non (nomark _)) fun σ H Q ⟨B, G, S, R, q⟩ => by
  simp only [evX] at q
  refine tH.mono (hd_go R (Aft.bind q)) fun v H1 ⟨h1, G1, S1, l1, R1, r1, k1⟩ => ?_
  obtain ⟨r, e, k3⟩ := Aft.opt k1
  simp only [Option.map_eq_some_iff] at e
  obtain ⟨d, e4, rfl⟩ := e
  refine ⟨rfl, d.isNon, by rw [(rdH_rel R1 r1 e4).isNon], ?_⟩
  have := k3 G1 H1 (.refl G1) R1
  cases d <;> exact this
theorem snd_notN {a : E} {x : Expr} {j : Nat} {p2 : Pos} (ha : PE X x (tH C Φ a)) : PE X (.Compare x [.IsNot] [.Constant .none j p2] p) (tX C Φ (.notN a)) :=
  imp (pe_cmpR op_notN ha pe_non (nomark _)) fun σ H Q ⟨B, G, S, R, q⟩ => by
  simp only [evX] at q
  refine tH.mono (hd_go R (Aft.bind q)) fun v H1 ⟨h1, G1, S1, l1, R1, r1, k1⟩ => ?_
  obtain ⟨r, e, k3⟩ := Aft.opt k1
  simp only [Option.map_eq_some_iff] at e
  obtain ⟨d, e4, rfl⟩ := e
  refine ⟨rfl, ?_⟩
  rw [(rdH_rel R1 r1 e4).isNon]
  refine k3 G1 H1 (.refl G1) R1 _ ?_
  cases d <;> exact .bl _
theorem snd_notNT {a : E} {x : Expr} {j : Nat} {p2 : Pos} (ha : PE X x (tH C Φ a)) : PT X (.Compare x [.IsNot] [.Constant .none j p2] p) (tT C Φ (.notN a)) :=
  impT (pt_cmpR op_notN ha pe_non (nomark _)) fun σ H Q ⟨B, G, S, R, q⟩ => by
  simp only [evX] at q
  refine tH.mono (hd_go R (Aft.bind q)) fun v H1 ⟨h1, G1, S1, l1, R1, r1, k1⟩ => ?_
  obtain ⟨r, e, k3⟩ := Aft.opt k1
  simp only [Option.map_eq_some_iff] at e
  obtain ⟨d, e4, rfl⟩ := e
  refine ⟨rfl, !d.isNon, by rw [(rdH_rel R1 r1 e4).isNon], ?_⟩
  have := k3 G1 H1 (.refl G1) R1
  cases d <;> exact this
theorem marks2 {o1 o2 : CmpOp} {y z : Expr} (hy : notSet y = true) (hz : notSet z = true) : lastMarks [o1, o2] [y, z] = false := notSet_mark hz o2
theorem chain_go {o1 o2 : Cop} {a b c : E} {K : PySem.W.Frag} {Q : VK} (q : tX C Φ (.chain o1 o2 a b c) σ H Q) : tChain (rCmp K o1) (rCmp K o2) (tH C Φ a) (tH C Φ b) (tH C Φ c) σ H Q := by
  obtain ⟨B, G, S, R, q⟩ := q
  simp only [evX] at q
  refine tH.mono (hd_go R (Aft.bind q)) fun v H1 ⟨h1, G1, S1, l1, R1, r1, k1⟩ => ?_
  refine tH.mono (hd_go R1 (Aft.bind k1)) fun u H2 ⟨h2, G2, S2, l2, R2, r2, k2⟩ => ?_
  split at k2
  · rename_i y e
    obtain ⟨d1, d2, e1, e2, e3⟩ := rdHs2 e
    simp only [Option.map_eq_some_iff] at e3
    obtain ⟨kk, e4, e5⟩ := e3
    cases e5
    refine cmp_go R2.h (rdH_rel R2 (r1.mono l2) e1) (rdH_rel R2 r2 e2) e4 ⟨true, rfl, ?_⟩
    simp only [if_true]
    refine tH.mono (hd_go R2 (Aft.bind k2)) fun w H3 ⟨h3, G3, S3, l3, R3, r3, k3⟩ => ?_
    obtain ⟨r, e6, k4⟩ := Aft.opt k3
    cases e7 : rdH S3 h3 with
    | none => rw [e7] at e6; cases e6
    | some z =>
      rw [e7] at e6
      simp only [Option.bind_some, Option.map_eq_some_iff] at e6
      obtain ⟨c, e8, rfl⟩ := e6
      have ru := (rdH_rel R2 r2 e2).int
      subst ru
      exact cmp_go R3.h (.inl (.int _)) (rdH_rel R3 r3 e7) e8 (k4 G3 H3 (.refl G3) R3 _ (.bl c))
  · rename_i y e
    obtain ⟨d1, d2, e1, e2, e3⟩ := rdHs2 e
    simp only [Option.map_eq_some_iff] at e3
    obtain ⟨kk, e4, e5⟩ := e3
    cases e5
    refine cmp_go R2.h (rdH_rel R2 (r1.mono l2) e1) (rdH_rel R2 r2 e2) e4 ⟨false, rfl, ?_⟩
    simp only [Bool.false_eq_true, if_false]
    exact Aft.ok k2 G2 H2 (.refl G2) R2 _ (.bl false)
  · exact k2.elim
theorem snd_chain {o1 o2 : Cop} {a b c : E} {x y z : Expr} (hu : X.A.units + 65 < cLine) (ha : PE X x (tH C Φ a)) (hb : PE X y (tH C Φ b)) (hc : PE X z (tH C Φ c)) (hy : notSet y = true) (hz : notSet z = true) :
    PE X (.Compare x [copOf o1, copOf o2] [y, z] p) (tX C Φ (.chain o1 o2 a b c)) := imp (pe_chain (opr_cmp hu o1) (opr_cmp hu o2) ha hb hc (marks2 hy hz)) fun _ _ _ => chain_go
theorem tX_test {c : E} {Q : Bool → Hp → Prop} (h : tT C Φ c σ H Q) : tX C Φ c σ H fun v H' => ∃ k, v = .bl k ∧ Q k H' := by
  obtain ⟨B, G, S, R, q⟩ := h
  refine ⟨B, G, S, R, q.mono fun r G' S' H' _ _ k v rv => ?_⟩
  split at k
  · cases rv; exact ⟨_, rfl, k⟩
  · exact k.elim
theorem snd_chainT {o1 o2 : Cop} {a b c : E} {x y z : Expr} (hu : X.A.units + 65 < cLine) (ha : PE X x (tH C Φ a)) (hb : PE X y (tH C Φ b)) (hc : PE X z (tH C Φ c)) (hy : notSet y = true) (hz : notSet z = true) :
    PT X (.Compare x [copOf o1, copOf o2] [y, z] p) (tT C Φ (.chain o1 o2 a b c)) := impT (pt_chain (opr_cmp hu o1) (opr_cmp hu o2) ha hb hc (marks2 hy hz)) fun _ _ _ q => chain_go (tX_test q)
theorem snd_not {a : E} {x : Expr} (ha : PE X x (tX C Φ a)) : PE X (.UnaryOp .Not x p) (tX C Φ (.not a)) := imp (pe_not ha) fun σ H Q ⟨B, G, S, R, q⟩ => by
  simp only [evX] at q
  refine tX.mono (val_go R (Aft.bind q)) fun v H1 ⟨r, G1, S1, l1, R1, rv, k1⟩ => ?_
  split at k1
  · cases rv; exact ⟨_, rfl, Aft.ok k1 G1 H1 (.refl G1) R1 _ (.bl _)⟩
  · exact k1.elim
theorem snd_notT {a : E} {x : Expr} (ha : PT X x (tT C Φ a)) : PT X (.UnaryOp .Not x p) (tT C Φ (.not a)) := impT (pt_not ha) fun σ H Q ⟨B, G, S, R, q⟩ => by
  simp only [evX] at q
  refine ⟨B, G, S, R, (Aft.bind q).mono fun r G1 S1 H1 l1 R1 k1 => ?_⟩
  split at k1
  · exact Aft.ok k1 G1 H1 (.refl G1) R1
  · exact k1.elim
theorem snd_truth {a : E} {x : Expr} (ht : plainTest x = true) (ha : PE X x (tH C Φ a)) : PT X x (tT C Φ (.truth a)) := impT (pt_truth ha (plainTest_ok ht _)) fun σ H Q ⟨B, G, S, R, q⟩ => by
  simp only [evX] at q
  refine tH.mono (hd_go R (Aft.bind q)) fun v H1 ⟨h1, G1, S1, l1, R1, r1, k1⟩ => ?_
  obtain ⟨r, e, k3⟩ := Aft.opt k1
  cases e1 : rdH S1 h1 with
  | none => rw [e1] at e; cases e
  | some d =>
    rw [e1] at e
    simp only [Option.bind_some, Option.map_eq_some_iff] at e
    obtain ⟨b, e2, rfl⟩ := e
    exact ⟨b, truth_go R1.h (rdH_rel R1 r1 e1) e2, k3 G1 H1 (.refl G1) R1⟩
theorem snd_and {a b : E} {x y : Expr} {ys : List Expr} (ha : PE X x (tX C Φ a)) (hb : PE X (.BoolOp .And (y :: ys) p) (tX C Φ b)) : PE X (.BoolOp .And (x :: y :: ys) p) (tX C Φ (.and a b)) := imp (pe_and ha hb) fun σ H Q ⟨B, G, S, R, q⟩ => by
  simp only [evX] at q
  refine tX.mono (val_go R (Aft.bind q)) fun v H1 ⟨r, G1, S1, l1, R1, rv, k1⟩ => ?_
  split at k1
  · cases rv
    refine ⟨true, rfl, ?_⟩
    simp only [if_true]
    refine tX.mono (val_go R1 (Aft.bind k1)) fun v H2 ⟨r, G2, S2, l2, R2, rv, k2⟩ => ?_
    split at k2
    · cases rv; exact Aft.ok k2 G2 H2 (.refl G2) R2 _ (.bl _)
    · exact k2.elim
  · cases rv
    refine ⟨false, rfl, ?_⟩
    simp only [Bool.false_eq_true, if_false]
    exact Aft.ok k1 G1 H1 (.refl G1) R1 _ (.bl _)
  · exact k1.elim
theorem snd_or {a b : E} {x y : Expr} {ys : List Expr} (ha : PE X x (tX C Φ a)) (hb : PE X (.BoolOp .Or (y :: ys) p) (tX C Φ b)) : PE X (.BoolOp .Or (x :: y :: ys) p) (tX C Φ (.or a b)) := imp (pe_or ha hb) fun σ H Q ⟨B, G, S, R, q⟩ => by
  simp only [evX] at q
  refine tX.mono (val_go R (Aft.bind q)) fun v H1 ⟨r, G1, S1, l1, R1, rv, k1⟩ => ?_
  split at k1
  · cases rv
    refine ⟨false, rfl, ?_⟩
    simp only [Bool.false_eq_true, if_false]
    refine tX.mono (val_go R1 (Aft.bind k1)) fun v H2 ⟨r, G2, S2, l2, R2, rv, k2⟩ => ?_
    split at k2
    · cases rv; exact Aft.ok k2 G2 H2 (.refl G2) R2 _ (.bl _)
    · exact k2.elim
  · cases rv
    refine ⟨true, rfl, ?_⟩
    simp only [if_true]
    exact Aft.ok k1 G1 H1 (.refl G1) R1 _ (.bl _)
  · exact k1.elim
theorem tT.mono {c : E} {Q Q' : Bool → Hp → Prop} (h : tT C Φ c σ H Q) (f : ∀ v H', Q v H' → Q' v H') : tT C Φ c σ H Q' := by
  obtain ⟨B, G, S, R, q⟩ := h
  refine ⟨B, G, S, R, q.mono fun r G' S' H' _ _ k => ?_⟩
  split at k
  · exact f _ _ k
  · exact k.elim
theorem test_go {c : E} {K : Rv → Gh → Sg → Hp → Prop} (R : RR C.cl B G S σ H) (h : Aft C B G σ (evX Φ c S) K) (hb : ∀ r G' S' H', K r G' S' H' → ∃ b, r = .val (.bl b)) :
    tT C Φ c σ H fun b H' => ∃ G' S', G.Le G' ∧ RR C.cl B G' S' σ H' ∧ K (.val (.bl b)) G' S' H' :=
  ⟨B, G, S, R, h.mono fun r G' S' H' l R' k => by
    obtain ⟨b, rfl⟩ := hb r G' S' H' k
    exact ⟨G', S', l, R', k⟩⟩
theorem snd_andT {a b : E} {x y : Expr} {ys : List Expr} (ha : PT X x (tT C Φ a)) (hb : PW X (.BoolOp .And (y :: ys) p) (tT C Φ b)) : PW X (.BoolOp .And (x :: y :: ys) p) (tT C Φ (.and a b)) :=
  ⟨fun whole pins s σ H Q I q => (pw_and ha hb).run whole pins s σ H Q I (by
    obtain ⟨B, G, S, R, q⟩ := q
    simp only [evX] at q
    refine tT.mono (test_go R (Aft.bind q) fun r G' S' H' k => ?_) fun v H1 ⟨G1, S1, l1, R1, k1⟩ => ?_
    · cases r with
      | own m => exact k.elim
      | val d => cases d <;> first | exact k.elim | exact ⟨_, rfl⟩
    · cases v with
      | true =>
        simp only [if_true]
        refine ⟨B, G1, S1, R1, (Aft.bind k1).mono fun r G2 S2 H2 l2 R2 k2 => ?_⟩
        split at k2
        · exact Aft.ok k2 G2 H2 (.refl G2) R2
        · exact k2.elim
      | false =>
        simp only [Bool.false_eq_true, if_false]
        exact Aft.ok k1 G1 H1 (.refl G1) R1)⟩
theorem snd_orT {a b : E} {x y : Expr} {ys : List Expr} (ha : PT X x (tT C Φ a)) (hb : PW X (.BoolOp .Or (y :: ys) p) (tT C Φ b)) : PW X (.BoolOp .Or (x :: y :: ys) p) (tT C Φ (.or a b)) :=
  ⟨fun whole pins s σ H Q I q => (pw_or ha hb).run whole pins s σ H Q I (by
    obtain ⟨B, G, S, R, q⟩ := q
    simp only [evX] at q
    refine tT.mono (test_go R (Aft.bind q) fun r G' S' H' k => ?_) fun v H1 ⟨G1, S1, l1, R1, k1⟩ => ?_
    · cases r with
      | own m => exact k.elim
      | val d => cases d <;> first | exact k.elim | exact ⟨_, rfl⟩
    · cases v with
      | true =>
        simp only [if_true]
        exact Aft.ok k1 G1 H1 (.refl G1) R1
      | false =>
        simp only [Bool.false_eq_true, if_false]
        refine ⟨B, G1, S1, R1, (Aft.bind k1).mono fun r G2 S2 H2 l2 R2 k2 => ?_⟩
        split at k2
        · exact Aft.ok k2 G2 H2 (.refl G2) R2
        · exact k2.elim)⟩
theorem snd_and1T {a : E} {x : Expr} (ha : PT X x (tT C Φ a)) : PW X (.BoolOp .And [x] p) (tT C Φ a) := pw_and1 ha
theorem snd_or1T {a : E} {x : Expr} (ha : PT X x (tT C Φ a)) : PW X (.BoolOp .Or [x] p) (tT C Φ a) := pw_or1 ha
theorem snd_ife {t a b : E} {x y z : Expr} (ht : PT X x (tT C Φ t)) (ha : PE X y (tX C Φ a)) (hb : PE X z (tX C Φ b)) : PE X (.IfExp x y z p) (tX C Φ (.ife t a b)) := imp (pe_ifExp ht ha hb) fun σ H Q ⟨B, G, S, R, q⟩ => by
  simp only [evX] at q
  refine tT.mono (test_go R (Aft.bind q) fun r G' S' H' k => ?_) fun v H1 ⟨G1, S1, l1, R1, k1⟩ => ?_
  · cases r with
    | own m => exact k.elim
    | val d => cases d <;> first | exact k.elim | exact ⟨_, rfl⟩
  · cases v with
    | true =>
      simp only [if_true]
      exact tX.mono (frz_go R1 (Aft.bind k1)) fun v H2 ⟨r, G2, S2, l2, R2, rv, k2⟩ => Aft.ok k2 G2 H2 (.refl G2) R2 _ rv
    | false =>
      simp only [Bool.false_eq_true, if_false]
      exact tX.mono (frz_go R1 (Aft.bind k1)) fun v H2 ⟨r, G2, S2, l2, R2, rv, k2⟩ => Aft.ok k2 G2 H2 (.refl G2) R2 _ rv
theorem snd_neg {a : E} {x : Expr} (ha : PE X x (tX C Φ a)) : PE X (.UnaryOp .USub x p) (tX C Φ (.neg a)) := imp (pe_un un_neg ha) fun σ H Q ⟨B, G, S, R, q⟩ => by
  simp only [evX] at q
  refine tX.mono (frz_go R (Aft.bind q)) fun v H1 ⟨r, G1, S1, l1, R1, rv, k1⟩ => ?_
  split at k1
  · rename_i i e
    rw [e] at rv; cases rv
    exact ⟨_, rfl, Aft.ok k1 G1 H1 (.refl G1) R1 _ (.int _)⟩
  · exact k1.elim
theorem snd_idx (hz : ∀ a xs, C.cl.Z a xs → ∀ H, SqL X.K H a (xs.map .int)) {a b : E} {x y : Expr} (hu : X.A.units + 1 < cLine) (ha : PE X x (tH C Φ a)) (hb : PE X y (tH C Φ b)) (hs : notSl y = true) : PE X (.Subscript x y p) (tX C Φ (.idx a b)) := imp (pe_ix (ixr_idx hu) ha hb (notSl_ok hs)) fun σ H Q ⟨B, G, S, R, q⟩ => by
  simp only [evX] at q
  refine tH.mono (hd_go R (Aft.bind q)) fun v H1 ⟨h1, G1, S1, l1, R1, r1, k1⟩ => ?_
  refine tH.mono (hd_go R1 (Aft.bind k1)) fun u H2 ⟨h2, G2, S2, l2, R2, r2, k2⟩ => ?_
  obtain ⟨r, e, k3⟩ := Aft.opt k2
  obtain ⟨d1, d2, e1, e2, e3⟩ := rdHs2 e
  simp only [Option.map_eq_some_iff] at e3
  obtain ⟨d, e4, rfl⟩ := e3
  exact idx_go hz R2.h (rdH_rel R2 (r1.mono l2) e1) (rdH_rel R2 r2 e2) e4 fun w rw' => k3 G2 H2 (.refl G2) R2 w rw'
/-- .. of a part of a slice -/
def tO (C : Ct) (Φ : Fns) : Option E → TO
  | none => tNoPart
  | some c => tPart (tX C Φ c)
theorem O_go {c : Option E} {K : Option Int → Gh → Sg → Hp → Prop} (R : RR C.cl B G S σ H) (h : Aft C B G σ (evO Φ c S) K) :
    tO C Φ c σ H fun o H' => ∃ G' S', G.Le G' ∧ RR C.cl B G' S' σ H' ∧ K o G' S' H' := by
  cases c with
  | none =>
    simp only [evO] at h
    exact ⟨G, S, .refl G, R, Aft.ok h G H (.refl G) R⟩
  | some c =>
    simp only [evO] at h
    refine tX.mono (frz_go R (Aft.bind h)) fun v H1 ⟨r, G1, S1, l1, R1, rv, k1⟩ => ?_
    generalize hd : r.frz = d at rv k1
    cases d <;> first | exact k1.elim | skip
    cases rv
    exact ⟨_, rfl, G1, S1, l1, R1, Aft.ok k1 G1 H1 (.refl G1) R1⟩
theorem tO.mono {c : Option E} {Q Q' : Option Int → Hp → Prop} (h : tO C Φ c σ H Q) (f : ∀ v H', Q v H' → Q' v H') : tO C Φ c σ H Q' := by
  cases c with
  | none => exact f none H h
  | some c => exact tX.mono h fun v H1 ⟨i, e, q⟩ => ⟨i, e, f _ _ q⟩
theorem snd_slc {a : E} {lo hi : Option E} {x : Expr} {l h : Option Expr} {p2 : Pos} (ha : PE X x (tH C Φ a)) (hl : PO X l (tO C Φ lo)) (hh : PO X h (tO C Φ hi)) : PE X (.Subscript x (.Slice l h none p2) p) (tX C Φ (.slc a lo hi)) :=
  imp (pe_slice slr_slc ha hl hh) fun σ H Q ⟨B, G, S, R, q⟩ => by
  simp only [evX] at q
  refine tH.mono (hd_go R (Aft.bind q)) fun v H1 ⟨h1, G1, S1, l1, R1, r1, k1⟩ => ?_
  refine tO.mono (O_go R1 (Aft.bind k1)) fun o1 H2 ⟨G2, S2, l2, R2, k2⟩ => ?_
  refine tO.mono (O_go R2 (Aft.bind k2)) fun o2 H3 ⟨G3, S3, l3, R3, k3⟩ => ?_
  obtain ⟨r, e, k4⟩ := Aft.opt k3
  cases e1 : rdH S3 h1 with
  | none => rw [e1] at e; cases e
  | some d =>
    rw [e1] at e
    exact slc_go R3 (rdH_rel R3 (r1.mono (l2.trans l3)) e1) e k4
theorem snd_bif (hz : ∀ a xs, C.cl.Z a xs → ∀ H, SqL X.K H a (xs.map .int)) {f : Bif} {cs : List E} {x : Str} {y : Expr} {ys : List Expr} {p2 : Pos} (hc : X.calm = true) (hu : X.A.units + 70 < cLine) (hf : simpleB f = true) (hx : x = bifN f) (hg : Gl X x) (hm : X.mg x = none)
    (ha : PA X (y :: ys) (tAH C Φ cs)) (hn : (y :: ys).all notStar = true) : PE X (.Call (.Name x p2) (y :: ys) [] p) (tX C Φ (.bif f cs)) := by
  have hs := notStar_ok (by rw [List.all_cons, Bool.and_eq_true] at hn; exact hn.1 : notStar y = true) ys X.env
  have hpl : (backTo p (starEach ys X.env)).any (·.1) = false := notStars_b _ _ (by rw [List.all_cons, Bool.and_eq_true] at hn; exact hn.2)
  have key : PE X (.Call (.Name x p2) (y :: ys) [] p) (tCB (rBif X.K f) (tAH C Φ cs)) := by
    subst hx
    cases f <;> first
      | exact Bool.noConfusion hf
      | exact pe_callB (cr_bif hc hu _) hg hm (by decide +kernel) ha (by decide) (by decide) hs hpl
      | exact pe_callTy (cr_bif hc hu _) hg hm (by decide +kernel) ha (by decide) (by decide) hs hpl
  refine imp key fun σ H Q ⟨B, G, S, R, q⟩ => ?_
  simp only [evX] at q
  refine tAH.mono (H_go R (Aft.bind q)) fun vs H1 ⟨hs, G1, S1, l1, R1, r1, k1⟩ => ?_
  obtain ⟨r, e, k2⟩ := Aft.opt k1
  cases e1 : rdHs S1 hs with
  | none => rw [e1] at e; cases e
  | some ds =>
    rw [e1] at e
    exact bif_go hz R1 (rdHs_rel R1 r1 e1) hf e k2
theorem rgV_eq (n : Int) : rgV 0 n = (List.range n.toNat).map fun k : Nat => V.int (k : Int) := by
  unfold rgV
  rw [Int.sub_zero]
  exact List.map_congr_left fun i _ => by rw [Int.zero_add]
theorem RelDs.range (n : Int) : RelDs G (rangeD n) (rgV 0 n) := by
  rw [rgV_eq]
  unfold rangeD
  generalize List.range n.toNat = l
  induction l with
  | nil => exact .nil
  | cons k l ih => exact .cons (.int _) ih
theorem rangeD_len {n : Int} (h : n ≤ (LIM : Int)) : (rangeD n).length ≤ LIM := by
  unfold rangeD
  rw [List.length_map, List.length_range]; omega
theorem rg_ok {n : Int} (h1 : n ≤ (LIM : Int)) (h2 : -(LIM : Int) ≤ n) : RgOk 0 n := by
  have hL : (LIM : Int) = 1048576 := rfl
  refine ⟨by omega, by omega, by omega, by omega, ?_⟩
  rw [Int.sub_zero]
  omega
theorem H1_go {c : E} {K : List Hd → Gh → Sg → Hp → Prop} (R : RR C.cl B G S σ H) (h : Aft C B G σ (evH Φ [c] S) K) :
    tH C Φ c σ H fun v H' => ∃ hs G' S', G.Le G' ∧ RR C.cl B G' S' σ H' ∧ RelHs G' σ hs [v] ∧ K hs G' S' H' := H_go R h
theorem snd_tupRg {a : E} {x : Expr} {p2 p3 p4 : Pos} (hc : X.calm = true) (hg : Gl X "tuple") (hm : X.mg "tuple" = none) (hg2 : Gl X "range") (hm2 : X.mg "range" = none) (ha : PE X x (tH C Φ a)) (hn : notStar x = true) :
    PE X (.Call (.Name "tuple" p2) [.Call (.Name "range" p3) [x] [] p4] [] p) (tX C Φ (.bif .tupRange [a])) :=
  imp (pe_tupRg hc hg hm (prg_1 hg2 hm2 ha (notStar_ok hn _ _))) fun σ H Q ⟨B, G, S, R, q⟩ => by
  simp only [evX] at q
  refine tH.mono (H1_go R (Aft.bind q)) fun v H1 ⟨hs, G1, S1, l1, R1, r1, k1⟩ => ?_
  obtain ⟨r, e, k2⟩ := Aft.opt k1
  cases e1 : rdHs S1 hs with
  | none => rw [e1] at e; cases e
  | some ds =>
    rw [e1] at e
    have rn := rdHs_rel R1 r1 e1
    match ds, rn with
    | [d], rn =>
      have e' : bifD .tupRange [d] = some r := e
      cases d <;> simp only [bifD] at e' <;> first | cases e' | skip
      rename_i n
      split at e'
      · rename_i h
        cases e'
        cases rn.1.int
        refine ⟨n, rfl, rg_ok h.1 h.2, fun a ha => ?_⟩
        obtain ⟨g1, g2, g3⟩ := R1.tup ha (RelDs.range n) (rangeD_len h.1)
        exact k2 _ _ g1 g2 _ g3
      · cases e'
theorem snd_lstRg {a : E} {x : Expr} {p2 p3 p4 : Pos} (hc : X.calm = true) (hg : Gl X "list") (hm : X.mg "list" = none) (hg2 : Gl X "range") (hm2 : X.mg "range" = none) (ha : PE X x (tH C Φ a)) (hn : notStar x = true) :
    PE X (.Call (.Name "list" p2) [.Call (.Name "range" p3) [x] [] p4] [] p) (tX C Φ (.bif .lstRange [a])) :=
  imp (pe_listRg hc hg hm (prg_1 hg2 hm2 ha (notStar_ok hn _ _))) fun σ H Q ⟨B, G, S, R, q⟩ => by
  simp only [evX] at q
  refine tH.mono (H1_go R (Aft.bind q)) fun v H1 ⟨hs, G1, S1, l1, R1, r1, k1⟩ => ?_
  obtain ⟨r, e, k2⟩ := Aft.opt k1
  cases e1 : rdHs S1 hs with
  | none => rw [e1] at e; cases e
  | some ds =>
    rw [e1] at e
    have rn := rdHs_rel R1 r1 e1
    match ds, rn with
    | [d], rn =>
      have e' : bifD .lstRange [d] = some r := e
      cases d <;> simp only [bifD] at e' <;> first | cases e' | skip
      rename_i n
      split at e'
      · rename_i h
        cases e'
        cases rn.1.int
        refine ⟨n, rfl, rg_ok h.1 h.2, fun a ha => ?_⟩
        obtain ⟨g2, g3⟩ := R1.own ha (m := .lst (rangeD n)) (o := .lst (rgV 0 n)) ⟨RelDs.range n, rangeD_len h.1⟩
        exact k2 _ _ (.refl G1) g2 _ g3
      · cases e'
theorem isi_ty (K : PySem.W.Frag) : ∀ {d : D} {t : Ty} {b : Bool} {v : V}, RelN G H d v → (∀ ds, d = .tup ds → ∃ a vs, v = .ref a ∧ H a = some (.tup vs)) → (∀ ds, d = .lst ds → ∃ a vs, v = .ref a ∧ H a = some (.lst vs)) → isiD d t = some b →
    ∃ u, TyX K H v u ∧ PySem.W.kitOne K u (.type (tyS t)) = some b := by
  intro d t b v r h1 h2 e
  cases d with
  | non => cases r.non; cases t <;> simp only [isiD] at e <;> cases e <;> exact ⟨_, .base .non, kit_ty (by decide +kernel)⟩
  | bl c => cases r.bl; cases t <;> simp only [isiD] at e <;> cases e <;> exact ⟨_, .base (.bl _), kit_ty (by decide +kernel)⟩
  | int c => cases r.int; cases t <;> simp only [isiD] at e <;> cases e <;> exact ⟨_, .base (.int _), kit_ty (by decide +kernel)⟩
  | str c => cases r.str; cases t <;> simp only [isiD] at e <;> cases e <;> exact ⟨_, .base (.str _), kit_ty (by decide +kernel)⟩
  | tup ds =>
    obtain ⟨a, vs, rfl, q⟩ := h1 ds rfl
    cases t <;> simp only [isiD] at e <;> cases e <;> exact ⟨_, .base (.tup q), kit_ty (by decide +kernel)⟩
  | lst ds =>
    obtain ⟨a, vs, rfl, q⟩ := h2 ds rfl
    cases t <;> simp only [isiD] at e <;> cases e <;> exact ⟨_, .base (.lst q), kit_ty (by decide +kernel)⟩
  | _ => cases t <;> simp only [isiD] at e <;> cases e
theorem boot_ty (t : Ty) : bootBuiltins (tyN t) = some (.type (tyS t)) := by cases t <;> decide +kernel
theorem snd_isi {a : E} {t : Ty} {y : Expr} {p2 p3 : Pos} (hg : Gl X "isinstance") (hm : X.mg "isinstance" = none) (hg2 : Gl X (tyN t)) (hm2 : X.mg (tyN t) = none) (ha : PE X y (tH C Φ a)) (hn : notStar y = true) :
    PE X (.Call (.Name "isinstance" p2) [y, .Name (tyN t) p3] [] p) (tX C Φ (.isi a t)) := by
  have hb : PE X (.Name (tyN t) p3) (tC (.ty (tyS t))) := by
    cases t <;> exact pe_bltn hg2 hm2 (boot_ty _) rfl (by decide) (by decide)
  refine imp (pe_callB call_isi hg hm (by decide +kernel) (pa_cons ha (pa_cons hb pa_nil rfl) (notStar_ok hn _ _)) (by decide) (by decide) (notStar_ok hn _ _) rfl) fun σ H Q ⟨B, G, S, R, q⟩ => ?_
  simp only [evX] at q
  refine tH.mono (hd_go R (Aft.bind q)) fun v H1 ⟨h1, G1, S1, l1, R1, r1, k1⟩ => ?_
  obtain ⟨r, e, k3⟩ := Aft.opt k1
  cases e1 : rdH S1 h1 with
  | none => rw [e1] at e; cases e
  | some d =>
    rw [e1] at e
    simp only [Option.bind_some, Option.map_eq_some_iff] at e
    obtain ⟨b, e2, rfl⟩ := e
    have rn := rdH_rel R1 r1 e1
    obtain ⟨u, t1, t2⟩ := isi_ty X.K rn (fun ds z => by subst z; obtain ⟨a, vs, e3, _, e4, _⟩ := rn.tup R1.h; exact ⟨a, vs, e3, e4⟩) (fun ds z => by subst z; obtain ⟨a, vs, e3, e4, _⟩ := rn.lst R1.h; exact ⟨a, vs, e3, e4⟩) e2
    exact ⟨v, _, u, _, b, rfl, .ty _, t1, t2, k3 G1 H1 (.refl G1) R1 _ (.bl b)⟩
theorem snd_dct0 : PE X (.Dict [] [] p) (tX C Φ .dct0) := imp pe_dnewK fun σ H Q ⟨B, G, S, R, q⟩ => by
  simp only [evX] at q
  intro a ha
  obtain ⟨g2, g3⟩ := R.own ha (m := .dct [] []) (o := .dK []) ⟨rfl, .nil, Nat.zero_le _⟩
  exact Aft.ok q _ _ (.refl G) g2 _ g3
theorem snd_call {f : String} {fd : Fd} {k : Nat} {cs : List E} {y : Expr} {ys : List Expr} {p2 : Pos} (F : FnAt X C Φ k f fd) (hr : Room k X.A) (tk : Takes X C.W) (hg : Gl X (Str.ofString f)) (hdb : (Str.ofString f == ("__debug__" : Str)) = false)
    (hps : ∀ ds st, ds.length ≠ fd.ps → Φ f ds st = .no)
    (ha : PA X (y :: ys) (tXL C Φ cs)) (hn : (y :: ys).all notStar = true) : PE X (.Call (.Name (Str.ofString f) p2) (y :: ys) [] p) (tX C Φ (.call f cs)) := by
  obtain ⟨a, fdat, ps, e1, e2, e3, e4, F⟩ := F.ex
  have hs := notStar_ok (by rw [List.all_cons, Bool.and_eq_true] at hn; exact hn.1 : notStar y = true) ys X.env
  have hpl : (backTo p (starEach ys X.env)).any (·.1) = false := notStars_b _ _ (by rw [List.all_cons, Bool.and_eq_true] at hn; exact hn.2)
  refine imp (pe_callS F hr hg e1 e2 e3 (passAt tk) ha hdb hs hpl) fun σ H Q ⟨B, G, S, R, q⟩ => ?_
  simp only [evX] at q
  refine tXL.mono (L_go R (Aft.bind q)) fun vs H1 ⟨ds, G1, S1, l1, R1, r1, hl, k1⟩ => ?_
  by_cases hd : ds.length = fd.ps
  · refine ⟨G1, S1.st, ds, R1.h.entry, r1, hd, ?_⟩
    unfold callD at k1
    generalize Φ f ds S1.st = an at k1 ⊢
    cases an with
    | ret r st =>
      intro v H2 G2 l2 q2 rr
      exact Aft.ok k1 G2 H2 l2 (R1.back l2 q2) v (rr.back R1 q2)
    | exc x st =>
      intro cls d H2 G2 l2 q2 rx
      exact k1 G2 H2 cls d l2 (R1.back l2 q2) rx
    | no => exact k1.elim
  · unfold callD at k1
    rw [hps ds S1.st hd] at k1
    exact k1.elim
end
end Tk
namespace Tk
open PySem L2 PySem.W
def iSeq (K : PySem.W.Frag) (tl : TE) : TI := fun σ H R => tl σ H fun x H1 => ∃ a, x = .ref a ∧ (((∃ xs, SqL K H1 a xs) ∧ R (Itl K a) H1) ∨ ((∃ xs, SqT K H1 a xs) ∧ R (Itt K a) H1))
section
variable {X : Cx} {tg : Expr}
theorem pi_seq {l : Expr} {tl : TE} (hl : PE X l tl) : PI X tg l (iSeq X.K tl) := by
  refine ⟨fun pins s σ H R I h => ?_⟩
  refine thn (hl.run pins s σ H _ I h) fun v s1 ⟨x, H1, I1, r1, q1⟩ => ?_
  obtain ⟨a, e, q1⟩ := q1
  subst e
  cases r1
  rcases q1 with ⟨⟨xs, hq⟩, q⟩ | ⟨⟨xs, hq⟩, q⟩
  · obtain ⟨its, rv, p, hz⟩ := I1.list hq
    refine wpAny_pyIter_list p.isList ?_
    refine ⟨s1.heap.objs.size, [s1.heap.objs.size], _, _, H1, rfl, I1.kept (t' := s1.toks) fun b o e => Heap.get?_push_of_some _ e, turn_list a _, ⟨_, Heap.get?_push_size _ rfl, rfl, rfl⟩, fun b hb => ?_, q⟩
    have e : b = s1.heap.objs.size := by simpa using hb
    subst e
    exact I1.fpOk (Nat.le_refl _) (I1.hok.fresh (Nat.le_refl _))
  · obtain ⟨its, rv, p, hz⟩ := I1.tuple hq
    refine wpAny_pyIter_tuple (show s1.heap.IsTuple a its.toArray from p) ?_
    refine ⟨s1.heap.objs.size, [s1.heap.objs.size], _, _, H1, rfl, I1.kept (t' := s1.toks) fun b o e => Heap.get?_push_of_some _ e, turn_tuple a _, ⟨_, Heap.get?_push_size _ rfl, rfl, rfl⟩, fun b hb => ?_, q⟩
    have e : b = s1.heap.objs.size := by simpa using hb
    subst e
    exact I1.fpOk (Nat.le_refl _) (I1.hok.fresh (Nat.le_refl _))
end
/-- the walk's turns give the items, as long as the source stands -/
structure Src (J : It) (rg : Bool) (G0 : Gh) (σ : L2.St) (h : Hd) (d : D) (items : List D) (v : V) : Prop where
  go : ∀ (cl : Cls) (B : Base) (G : Gh) (S : Sg) (H : Hp) (i : Nat), G0.Le G → RR cl B G S σ H → (rg = true ∨ rdH S h = some d) → i < items.length → J.go i H
  yld : ∀ (cl : Cls) (B : Base) (G : Gh) (S : Sg) (H : Hp) (i : Nat) (x : V) (H' : Hp), G0.Le G → RR cl B G S σ H → (rg = true ∨ rdH S h = some d) → J.yld i H x H' → H' = H ∧ ∀ y, items[i]? = some y → RelD G y x
  stop : ∀ (cl : Cls) (B : Base) (G : Gh) (S : Sg) (H : Hp), G0.Le G → RR cl B G S σ H → (rg = true ∨ rdH S h = some d) → J.stop items.length H
theorem still_eq {S : Sg} {d : D} {h : Hd} (e : still S d h = true) : rdH S h = some d := by
  unfold still at e
  cases q : rdH S h with
  | none => rw [q] at e; cases e
  | some d' => rw [q] at e; rw [beqD_eq e]
theorem still_refl {S : Sg} {d : D} {h : Hd} (e : rdH S h = some d) : still S d h = true := by
  unfold still
  rw [e]; exact beqD_refl d
section
variable {C : Ct} {Φ : Fns} {B : Base} {G : Gh} {S : Sg} {σ σ' : L2.St} {H : Hp} {K : PySem.W.Frag} {h : Hd} {d : D} {v : V}
theorem src_lst {ds : List D} {a : Addr} (r : RelHd G σ h (.ref a)) : Src (Itl K a) false G σ h (.lst ds) ds (.ref a) where
  go := fun cl B G1 S1 H1 i l R e hi => by
    rcases e with e | e
    · cases e
    · have rn := rdH_rel (C := ⟨cl, fun _ _ _ _ _ => False, fun _ _ _ _ => False⟩) R (r.mono l) e
      obtain ⟨a', vs, e1, e2, r2, _⟩ := rn.lst (C := ⟨cl, fun _ _ _ _ _ => False, fun _ _ _ _ => False⟩) R.h
      cases e1
      have hi' : i < vs.length := by rw [← r2.length]; exact hi
      exact ⟨vs, vs[i], SqL.of e2, List.getElem?_eq_getElem hi'⟩
  yld := fun cl B G1 S1 H1 i x H2 l R e y => by
    rcases e with e | e
    · cases e
    · obtain ⟨y1, y2⟩ := y
      refine ⟨y1, fun y hy => ?_⟩
      have rn := rdH_rel (C := ⟨cl, fun _ _ _ _ _ => False, fun _ _ _ _ => False⟩) R (r.mono l) e
      obtain ⟨a', vs, e1, e2, r2, _⟩ := rn.lst (C := ⟨cl, fun _ _ _ _ _ => False, fun _ _ _ _ => False⟩) R.h
      cases e1
      obtain ⟨w, ew, rw'⟩ := r2.get hy
      have := y2 vs (SqL.of e2)
      rw [ew] at this; cases this
      exact rw'
  stop := fun cl B G1 S1 H1 l R e => by
    rcases e with e | e
    · cases e
    · have rn := rdH_rel (C := ⟨cl, fun _ _ _ _ _ => False, fun _ _ _ _ => False⟩) R (r.mono l) e
      obtain ⟨a', vs, e1, e2, r2, _⟩ := rn.lst (C := ⟨cl, fun _ _ _ _ _ => False, fun _ _ _ _ => False⟩) R.h
      cases e1
      exact ⟨vs, SqL.of e2, by rw [r2.length]; exact Nat.le_refl _⟩
theorem src_tup {ds : List D} {a : Addr} (r : RelHd G σ h (.ref a)) : Src (Itt K a) false G σ h (.tup ds) ds (.ref a) where
  go := fun cl B G1 S1 H1 i l R e hi => by
    rcases e with e | e
    · cases e
    · have rn := rdH_rel (C := ⟨cl, fun _ _ _ _ _ => False, fun _ _ _ _ => False⟩) R (r.mono l) e
      obtain ⟨a', vs, e1, _, e2, r2, _⟩ := rn.tup (C := ⟨cl, fun _ _ _ _ _ => False, fun _ _ _ _ => False⟩) R.h
      cases e1
      have hi' : i < vs.length := by rw [← r2.length]; exact hi
      exact ⟨vs, vs[i], SqT.of e2, List.getElem?_eq_getElem hi'⟩
  yld := fun cl B G1 S1 H1 i x H2 l R e y => by
    rcases e with e | e
    · cases e
    · obtain ⟨y1, y2⟩ := y
      refine ⟨y1, fun y hy => ?_⟩
      have rn := rdH_rel (C := ⟨cl, fun _ _ _ _ _ => False, fun _ _ _ _ => False⟩) R (r.mono l) e
      obtain ⟨a', vs, e1, _, e2, r2, _⟩ := rn.tup (C := ⟨cl, fun _ _ _ _ _ => False, fun _ _ _ _ => False⟩) R.h
      cases e1
      obtain ⟨w, ew, rw'⟩ := r2.get hy
      have := y2 vs (SqT.of e2)
      rw [ew] at this; cases this
      exact rw'
  stop := fun cl B G1 S1 H1 l R e => by
    rcases e with e | e
    · cases e
    · have rn := rdH_rel (C := ⟨cl, fun _ _ _ _ _ => False, fun _ _ _ _ => False⟩) R (r.mono l) e
      obtain ⟨a', vs, e1, _, e2, r2, _⟩ := rn.tup (C := ⟨cl, fun _ _ _ _ _ => False, fun _ _ _ _ => False⟩) R.h
      cases e1
      exact ⟨vs, SqT.of e2, by rw [r2.length]; exact Nat.le_refl _⟩
theorem src_rng {n : Int} : Src (Itr 0 n.toNat) true G σ h d (rangeD n) v where
  go := fun cl B G1 S1 H1 i l R e hi => by
    unfold rangeD at hi
    rw [List.length_map, List.length_range] at hi
    exact hi
  yld := fun cl B G1 S1 H1 i x H2 l R e y => by
    obtain ⟨y1, y2⟩ := y
    refine ⟨y1, fun y hy => ?_⟩
    unfold rangeD at hy
    rw [List.getElem?_map] at hy
    have hi : i < n.toNat := by
      cases q : (List.range n.toNat)[i]? with
      | none => rw [q] at hy; cases hy
      | some k => simpa using (List.getElem?_eq_some_iff.mp q).1
    rw [List.getElem?_range hi] at hy
    cases hy
    rw [y2, Int.zero_add]
    exact .int _
  stop := fun cl B G1 S1 H1 l R e => by
    show n.toNat ≤ _
    unfold rangeD
    rw [List.length_map, List.length_range]; exact Nat.le_refl _
/-- the reading of what is walked -/
def tI (K : PySem.W.Frag) (C : Ct) (Φ : Fns) (rg : Bool) (it : E) : TI := match rg with
  | true => iRng1 (tCons (tH C Φ it) tNil)
  | false => iSeq K (tH C Φ it)
theorem I_go {rg : Bool} {it : E} {K1 : Hd → Gh → Sg → Hp → Prop} (R : RR C.cl B G S σ H) (q : Aft C B G σ (hd it (evX Φ it) S) K1) (hk : ∀ h G' S' H', K1 h G' S' H' → ∃ d items, srcOf rg h S' = some (d, items)) {R0 : It → Hp → Prop}
    (k : ∀ h G' S' H' v d items J, G.Le G' → RR C.cl B G' S' σ H' → RelHd G' σ h v → K1 h G' S' H' → srcOf rg h S' = some (d, items) → (∀ σ', RelHd G' σ' h v → Src J rg G' σ' h d items v) → (rg = true ∨ rdH S' h = some d) → items.length ≤ LIM → R0 J H') : tI K C Φ rg it σ H R0 := by
  cases rg with
  | true =>
    refine tH.mono (hd_go R q) fun v H1 ⟨h1, G1, S1, l1, R1, r1, k1⟩ => ?_
    obtain ⟨d, items, e⟩ := hk _ _ _ _ k1
    have e' := e
    unfold srcOf at e'
    cases q1 : rdH S1 h1 with
    | none => rw [q1] at e'; cases e'
    | some d1 =>
      rw [q1] at e'
      cases d1 <;> first | cases e' | skip
      rename_i n
      simp only [] at e'
      split at e'
      · rename_i hb
        cases e'
        cases (rdH_rel R1 r1 q1).int
        have hL : (LIM : Int) = 1048576 := rfl
        refine ⟨n, rfl, by omega, by omega, k h1 G1 S1 H1 _ _ _ _ l1 R1 r1 k1 e (fun σ' _ => src_rng) (.inl rfl) ?_⟩
        unfold rangeD
        rw [List.length_map, List.length_range]
        omega
      · cases e'
  | false =>
    refine tH.mono (hd_go R q) fun v H1 ⟨h1, G1, S1, l1, R1, r1, k1⟩ => ?_
    obtain ⟨d, items, e⟩ := hk _ _ _ _ k1
    have e' := e
    unfold srcOf at e'
    cases q1 : rdH S1 h1 with
    | none => rw [q1] at e'; cases e'
    | some d1 =>
      rw [q1] at e'
      simp only [Option.map_eq_some_iff] at e'
      obtain ⟨ds, e1, e2⟩ := e'
      cases e2
      unfold itemsD at e1
      have rn := rdH_rel R1 r1 q1
      split at e1
      · cases e1
        obtain ⟨a, vs, rfl, f1, h2, r2, hl⟩ := rn.tup R1.h
        exact ⟨a, rfl, .inr ⟨⟨vs, SqT.of h2⟩, k h1 G1 S1 H1 _ _ _ _ l1 R1 r1 k1 e (fun σ' r => src_tup r) (.inr q1) hl⟩⟩
      · cases e1
        obtain ⟨a, vs, rfl, h2, r2, hl⟩ := rn.lst R1.h
        exact ⟨a, rfl, .inl ⟨⟨vs, SqL.of h2⟩, k h1 G1 S1 H1 _ _ _ _ l1 R1 r1 k1 e (fun σ' r => src_lst r) (.inr q1) hl⟩⟩
      · cases e1

theorem foldl_set_len {α : Type} (f : Nat → α) : ∀ (vs : List Nat) (env : List α), (vs.foldl (fun e i => e.set i (f i)) env).length = env.length
  | [], _ => rfl
  | v :: vs, env => by rw [List.foldl_cons, foldl_set_len f vs, List.length_set]
theorem foldl_set_in {α : Type} (f : Nat → α) : ∀ (vs : List Nat) (env : List α) (j : Nat), j ∈ vs → j < env.length → (vs.foldl (fun e i => e.set i (f i)) env)[j]? = some (f j)
  | v :: vs, env, j, h, hj => by
    rw [List.foldl_cons]
    by_cases hm : j ∈ vs
    · exact foldl_set_in f vs _ j hm (by rw [List.length_set]; exact hj)
    · rcases List.mem_cons.mp h with e | e
      · subst e
        have : ∀ (vs : List Nat) (env : List α), j ∉ vs → (vs.foldl (fun e i => e.set i (f i)) env)[j]? = env[j]? := by
          intro vs
          induction vs with
          | nil => intro env _; rfl
          | cons w ws ih =>
            intro env hn
            rw [List.foldl_cons, ih _ (fun z => hn (List.mem_cons_of_mem _ z)), List.getElem?_set_ne (fun z => hn (by rw [z]; exact List.mem_cons_self))]
        rw [this vs _ hm, List.getElem?_set_self hj]
      · exact absurd e hm
theorem foldl_set_out {α : Type} (f : Nat → α) : ∀ (vs : List Nat) (env : List α) (j : Nat), j ∉ vs → (vs.foldl (fun e i => e.set i (f i)) env)[j]? = env[j]?
  | [], _, _, _ => rfl
  | v :: vs, env, j, h => by
    rw [List.foldl_cons, foldl_set_out f vs _ j (fun z => h (List.mem_cons_of_mem _ z)), List.getElem?_set_ne (fun z => h (by rw [z]; exact List.mem_cons_self))]
theorem wipe_out : ∀ {vs : List Nat} {j : Nat}, j ∉ vs → (wipe σ vs)[j]? = σ[j]?
  | [], _, _ => rfl
  | v :: vs, j, h => by
    unfold wipe
    rw [List.getElem?_set_ne (fun z => h (by rw [z]; exact List.mem_cons_self)), wipe_out fun z => h (List.mem_cons_of_mem _ z)]
theorem wipe_in : ∀ {vs : List Nat} {j : Nat}, j ∈ vs → j < σ.length → (wipe σ vs)[j]? = some none
  | v :: vs, j, h, hj => by
    unfold wipe
    by_cases e : v = j
    · subst e
      rw [List.getElem?_set_self (by rw [wipe_length]; exact hj)]
    · rw [List.getElem?_set_ne e]
      rcases List.mem_cons.mp h with z | z
      · exact absurd z.symm e
      · exact wipe_in z hj
theorem wipe_same {σ τ : L2.St} {vs : List Nat} (hl : σ.length = τ.length) (h : ∀ j, j ∉ vs → σ[j]? = τ[j]?) : wipe σ vs = wipe τ vs := by
  apply List.ext_getElem?
  intro j
  by_cases hj : j ∈ vs
  · by_cases hl' : j < σ.length
    · rw [wipe_in hj hl', wipe_in hj (hl ▸ hl')]
    · rw [List.getElem?_eq_none (by rw [wipe_length]; omega), List.getElem?_eq_none (by rw [wipe_length]; omega)]
  · rw [wipe_out hj, wipe_out hj, h j hj]
theorem RR.setV {cl : Cls} {d : D} {i : Nat} (R : RR cl B G S σ H) (r : RelD G d v) : RR cl B G { S with env := S.env.set i (.val d) } (σ.set i (some v)) H := by
  refine ⟨R.h, ⟨fun j e q => ?_, fun j m q => ?_, fun j j' m m' a q q' e e' => ?_, by simpa using R.s.len⟩⟩
  · have q' : (S.env.set i (.val d))[j]? = some (.val e) := q
    by_cases z : i = j
    · subst z
      have hi : i < S.env.length := by simpa using (List.getElem?_eq_some_iff.mp q').1
      rw [List.getElem?_set_self hi] at q'
      cases q'
      exact ⟨v, by rw [List.getElem?_set_self (by rw [← R.s.len]; exact hi)], r⟩
    · rw [List.getElem?_set_ne z] at q'
      rw [List.getElem?_set_ne z]
      exact R.s.val j e q'
  · have q' : (S.env.set i (.val d))[j]? = some (.own m) := q
    by_cases z : i = j
    · subst z
      have hi : i < S.env.length := by simpa using (List.getElem?_eq_some_iff.mp q').1
      rw [List.getElem?_set_self hi] at q'
      cases q'
    · rw [List.getElem?_set_ne z] at q'
      rw [List.getElem?_set_ne z]
      exact R.s.own j m q'
  · have ne : ∀ (j : Nat) (m : MO), (S.env.set i (.val d))[j]? = some (.own m) → i ≠ j ∧ S.env[j]? = some (.own m) := fun j m q => by
      by_cases z : i = j
      · subst z
        have hi : i < S.env.length := by simpa using (List.getElem?_eq_some_iff.mp q).1
        rw [List.getElem?_set_self hi] at q; cases q
      · rw [List.getElem?_set_ne z] at q
        exact ⟨z, q⟩
    obtain ⟨z1, y1⟩ := ne j m q
    obtain ⟨z2, y2⟩ := ne j' m' q'
    rw [List.getElem?_set_ne z1] at e
    rw [List.getElem?_set_ne z2] at e'
    exact R.s.sep j j' m m' a y1 y2 e e'
theorem RR.wiped {cl : Cls} {vs : List Nat} (R : RR cl B G S σ H) : RR cl B G { S with env := wipeE S.env vs } (wipe σ vs) H := by
  have out : ∀ (j : Nat) (x : Slot), (wipeE S.env vs)[j]? = some x → x ≠ .no → j ∉ vs ∧ S.env[j]? = some x := fun j x q hx => by
    by_cases z : j ∈ vs
    · have hj : j < S.env.length := by
        have := (List.getElem?_eq_some_iff.mp q).1
        rwa [wipeE, foldl_set_len (fun _ => Slot.no)] at this
      rw [wipeE, foldl_set_in (fun _ => Slot.no) vs _ j z hj] at q
      cases q; exact absurd rfl hx
    · rw [wipeE, foldl_set_out (fun _ => Slot.no) vs _ j z] at q
      exact ⟨z, q⟩
  refine ⟨R.h, ⟨fun j e q => ?_, fun j m q => ?_, fun j j' m m' a q q' e e' => ?_, ?_⟩⟩
  · obtain ⟨z, q'⟩ := out j _ q (by simp)
    rw [wipe_out z]; exact R.s.val j e q'
  · obtain ⟨z, q'⟩ := out j _ q (by simp)
    rw [wipe_out z]; exact R.s.own j m q'
  · obtain ⟨z, y⟩ := out j _ q (by simp)
    obtain ⟨z', y'⟩ := out j' _ q' (by simp)
    rw [wipe_out z] at e
    rw [wipe_out z'] at e'
    exact R.s.sep j j' m m' a y y' e e'
  · show (wipeE S.env vs).length = _
    rw [wipeE, foldl_set_len (fun _ => Slot.no), wipe_length]; exact R.s.len
theorem RR.back2 {cl : Cls} {vs : List Nat} {G0 : Gh} {S0 : Sg} {H0 : Hp} {B0 : Base} (R0 : RR cl B0 G0 S0 σ H0) (l : G0.Le G) (no : notOwn S0.env vs = true) (R : RR cl B G { S with env := wipeE S.env vs } (wipe σ vs) H) : RR cl B G { S with env := backE S0.env S.env vs } σ H := by
  have hlen : S.env.length = σ.length := by
    have := R.s.len
    rwa [show ({ S with env := wipeE S.env vs } : Sg).env = wipeE S.env vs from rfl, wipeE, foldl_set_len (fun _ => Slot.no), wipe_length] at this
  have cs : ∀ (j : Nat) (x : Slot), (backE S0.env S.env vs)[j]? = some x → x ≠ .no → (j ∈ vs ∧ S0.env[j]? = some x) ∨ (j ∉ vs ∧ (wipeE S.env vs)[j]? = some x) := fun j x q hx => by
    by_cases z : j ∈ vs
    · have hj : j < S.env.length := by
        have := (List.getElem?_eq_some_iff.mp q).1
        rwa [backE, foldl_set_len (fun i => S0.env.getD i .no)] at this
      rw [backE, foldl_set_in (fun i => S0.env.getD i .no) vs _ j z hj] at q
      cases q
      refine .inl ⟨z, ?_⟩
      rw [List.getD_eq_getElem?_getD] at hx ⊢
      cases y : S0.env[j]? with
      | none => rw [y] at hx; exact absurd rfl hx
      | some w => rfl
    · rw [backE, foldl_set_out (fun i => S0.env.getD i .no) vs _ j z] at q
      refine .inr ⟨z, ?_⟩
      rw [wipeE, foldl_set_out (fun _ => Slot.no) vs _ j z]; exact q
  have notow : ∀ (j : Nat) (m : MO), j ∈ vs → S0.env[j]? = some (.own m) → False := fun j m z q => by
    have := List.all_eq_true.mp no j z
    simp only [q] at this
    cases this
  refine ⟨R.h, ⟨fun j e q => ?_, fun j m q => ?_, fun j j' m m' a q q' e e' => ?_, ?_⟩⟩
  · rcases cs j _ q (by simp) with ⟨z, q'⟩ | ⟨z, q'⟩
    · obtain ⟨u, e1, r⟩ := R0.s.val j e q'
      exact ⟨u, e1, r.mono l⟩
    · have := R.s.val j e q'
      rwa [wipe_out z] at this
  · rcases cs j _ q (by simp) with ⟨z, q'⟩ | ⟨z, q'⟩
    · exact (notow j m z q').elim
    · have := R.s.own j m q'
      rwa [wipe_out z] at this
  · rcases cs j _ q (by simp) with ⟨z, y⟩ | ⟨z, y⟩
    · exact (notow j m z y).elim
    · rcases cs j' _ q' (by simp) with ⟨z', y'⟩ | ⟨z', y'⟩
      · exact (notow j' m' z' y').elim
      · exact R.s.sep j j' m m' a y y' (by rw [wipe_out z]; exact e) (by rw [wipe_out z']; exact e')
  · show (backE S0.env S.env vs).length = _
    rw [backE, foldl_set_len (fun i => S0.env.getD i .no)]; exact hlen

def Base.hold (B : Base) (D : Addr) (xs : List V) : Base := { B with H := upd B.H D (.lst xs) }
structure Bes (B : Base) (D : Addr) : Prop where
  h : B.H D = none
  f : B.F D = none
  r : D ∉ B.r
theorem RR.bes {cl : Cls} {D : Addr} (R : RR cl B G S σ H) (h : H D = none) : Bes B D := by
  refine ⟨R.h.newB h, ?_, fun z => ?_⟩
  · cases e : B.F D with
    | none => rfl
    | some u =>
      have := R.h.bf D u e
      rw [R.h.newF h] at this; cases this
  · obtain ⟨t, e, _⟩ := R.h.re
    exact R.h.newR h (by rw [e]; exact List.mem_append_left _ z)
theorem RR.hold {cl : Cls} {D : Addr} {xs : List V} (R : RR cl B G S σ H) (h : H D = none) : RR cl (B.hold D xs) G S σ (upd H D (.lst xs)) := by
  have b := R.bes h
  have R' := R.new (o := .lst xs) h
  have ne : ∀ a, a ≠ D → (B.hold D xs).H a = B.H a := fun a z => upd_ne z
  refine ⟨⟨fun a o e n => ?_, R'.h.fh, fun a u e => ?_, R'.h.bf, R'.h.hz, ?_, R'.h.nd, R'.h.rf, R'.h.len, R'.h.sto⟩, ⟨R'.s.val, fun i m e => ?_, R'.s.sep, R'.s.len⟩⟩
  · by_cases z : a = D
    · subst z
      have e' : upd B.H a (.lst xs) a = some o := e
      rw [upd_same] at e' ⊢; exact e'
    · rw [ne a z] at e; exact R'.h.fr a o e n
  · rcases R'.h.fe a u e with y | y
    · exact .inl y
    · exact .inr (by rw [ne a (fun z => by subst z; rw [R.h.newF h] at e; cases e)]; exact y)
  · obtain ⟨t, e1, e2⟩ := R'.h.re
    refine ⟨t, e1, fun a ha => ?_⟩
    rw [ne a (fun z => by subst z; exact R.h.newR h (by rw [e1]; exact List.mem_append_right _ ha))]
    exact e2 a ha
  · obtain ⟨a, o, e1, e2, r, f1, f2, f3⟩ := R'.s.own i m e
    refine ⟨a, o, e1, e2, r, f1, f2, ?_⟩
    rw [ne a (fun z => by subst z; exact R.fresh h i m e e1)]; exact f3
section
variable {cl : Cls} {D : Addr} {xs : List V}
theorem RR.held (R : RR cl (B.hold D xs) G S σ H) (b : Bes B D) : H D = some (.lst xs) := R.h.fr D _ (show upd B.H D (.lst xs) D = _ from upd_same) b.r
theorem RR.heldF (R : RR cl (B.hold D xs) G S σ H) (b : Bes B D) : G.F D = none := by
  cases e : G.F D with
  | none => rfl
  | some u =>
    rcases R.h.fe D u e with y | y
    · have y' : B.F D = some u := y
      rw [b.f] at y'; cases y'
    · have y' : upd B.H D (.lst xs) D = none := y
      rw [upd_same] at y'; cases y'
theorem RR.heldR (R : RR cl (B.hold D xs) G S σ H) (b : Bes B D) : D ∉ G.r := fun z => by
  obtain ⟨t, e1, e2⟩ := R.h.re
  rw [e1] at z
  rcases List.mem_append.mp z with y | y
  · exact b.r y
  · have y' : upd B.H D (.lst xs) D = none := e2 D y
    rw [upd_same] at y'; cases y'
theorem RR.heldO (R : RR cl (B.hold D xs) G S σ H) (i : Nat) (m : MO) (e : S.env[i]? = some (.own m)) : σ[i]? ≠ some (some (.ref D)) := fun z => by
  obtain ⟨a, o, e1, e2, r, f1, f2, f3⟩ := R.s.own i m e
  rw [z] at e1; cases e1
  have y' : upd B.H D (.lst xs) D = none := f3
  rw [upd_same] at y'; cases y'
theorem RR.held2 (R : RR cl (B.hold D xs) G S σ H) (b : Bes B D) (ys : List V) : RR cl (B.hold D ys) G S σ (upd H D (.lst ys)) := by
  have nf := R.heldF b
  have nr := R.heldR b
  have hh := R.held b
  have ne : ∀ a, a ≠ D → (B.hold D ys).H a = (B.hold D xs).H a := fun a z => by
    show upd B.H D _ a = upd B.H D _ a
    rw [upd_ne z, upd_ne z]
  refine ⟨⟨fun a o e n => ?_, fun a u e => ?_, fun a u e => ?_, R.h.bf, R.h.hz, ?_, R.h.nd, R.h.rf, R.h.len, fun n o e => ?_⟩, ⟨R.s.val, fun i m e => ?_, R.s.sep, R.s.len⟩⟩
  · by_cases z : a = D
    · subst z
      have e' : upd B.H a (.lst ys) a = some o := e
      rw [upd_same] at e' ⊢; exact e'
    · rw [ne a z] at e; rw [upd_ne z]; exact R.h.fr a o e n
  · rw [upd_ne (fun z => by subst z; rw [nf] at e; cases e)]; exact R.h.fh a u e
  · rcases R.h.fe a u e with y | y
    · exact .inl y
    · exact .inr (by rw [ne a (fun z => by subst z; rw [nf] at e; cases e)]; exact y)
  · obtain ⟨t, e1, e2⟩ := R.h.re
    refine ⟨t, e1, fun a ha => ?_⟩
    rw [ne a (fun z => by subst z; exact nr (by rw [e1]; exact List.mem_append_right _ ha))]
    exact e2 a ha
  · obtain ⟨a, e1, r⟩ := R.h.sto n o e
    exact ⟨a, e1, r.heap (upd_ne fun z => by subst z; exact nr (List.mem_of_getElem? e1))⟩
  · obtain ⟨a, o, e1, e2, r, f1, f2, f3⟩ := R.s.own i m e
    have z : a ≠ D := fun z => by subst z; exact R.heldO i m e e1
    exact ⟨a, o, e1, by rw [upd_ne z]; exact e2, r, f1, f2, by rw [ne a z]; exact f3⟩
theorem RR.unhold (R : RR cl (B.hold D xs) G S σ H) (b : Bes B D) : RR cl B G S σ H := by
  have ne : ∀ a, (B.hold D xs).H a = none → B.H a = none := fun a z => by
    have z' : upd B.H D (.lst xs) a = none := z
    by_cases y : a = D
    · subst y; rw [upd_same] at z'; cases z'
    · rw [upd_ne y] at z'; exact z'
  refine ⟨⟨fun a o e n => R.h.fr a o ?_ n, R.h.fh, fun a u e => (R.h.fe a u e).imp id (ne a), R.h.bf, R.h.hz, ?_, R.h.nd, R.h.rf, R.h.len, R.h.sto⟩, ⟨R.s.val, fun i m e => ?_, R.s.sep, R.s.len⟩⟩
  · show upd B.H D _ a = some o
    rw [upd_ne (fun z => by subst z; rw [b.h] at e; cases e)]; exact e
  · obtain ⟨t, e1, e2⟩ := R.h.re
    exact ⟨t, e1, fun a ha => ne a (e2 a ha)⟩
  · obtain ⟨a, o, e1, e2, r, f1, f2, f3⟩ := R.s.own i m e
    exact ⟨a, o, e1, e2, r, f1, f2, ne a f3⟩
end
end
end Tk
namespace Tk
open PySem L2 PySem.W
def gNs : List Nat → TGs
  | [] => gNil
  | i :: is => gCons (gName i) (gNs is)
def gT (K : PySem.W.Frag) (tg : List Nat) : TG := match tg with
  | [i] => gName i
  | is => gTup K is.length (gNs is)
section
variable {C : Ct} {Φ : Fns} {B : Base} {G : Gh} {S : Sg} {σ σ' : L2.St} {H : Hp} {K : PySem.W.Frag} {h : Hd} {d : D} {v : V} {cl : Cls}
theorem gNs_go : ∀ {is : List Nat} {ds : List D} {vs : List V} {S : Sg} {σ : L2.St} {Q : L2.St → Hp → Prop}, RR cl B G S σ H → RelDs G ds vs → is.length = ds.length →
    (∀ σ2, RR cl B G { S with env := (is.zip ds).foldl (fun e p => e.set p.1 (.val p.2)) S.env } σ2 H → σ2.length = σ.length → (∀ j, j ∉ is → σ2[j]? = σ[j]?) → Q σ2 H) → gNs is vs σ H Q
  | [], [], _, S, σ, Q, R, .nil, _, k => ⟨rfl, k σ R rfl fun _ _ => rfl⟩
  | i :: is, d :: ds, _, S, σ, Q, R, .cons r rs, e, k => by
    refine ⟨_, _, rfl, gNs_go (R.setV r) rs (by simpa using e) fun σ2 R2 hl ho => k σ2 R2 (by rw [hl, List.length_set]) fun j hj => ?_⟩
    rw [ho j (fun z => hj (List.mem_cons_of_mem _ z)), List.getElem?_set_ne (fun z => hj (by rw [z]; exact List.mem_cons_self))]
  | [], _ :: _, _, _, _, _, _, _, e, _ => by simp at e
  | _ :: _, [], _, _, _, _, _, _, e, _ => by simp at e
theorem gT_go {tg : List Nat} {env : List Slot} {Q : L2.St → Hp → Prop} (R : RR cl B G S σ H) (r : RelD G d v) (e : setTg S.env tg d = some env)
    (k : ∀ σ2, RR cl B G { S with env := env } σ2 H → σ2.length = σ.length → (∀ j, j ∉ tg → σ2[j]? = σ[j]?) → Q σ2 H) : gT K tg v σ H Q := by
  unfold setTg at e
  split at e
  · cases e
    rename_i i
    refine k _ (R.setV r) (by rw [List.length_set]) fun j hj => ?_
    rw [List.getElem?_set_ne (fun z => hj (by rw [z]; exact List.mem_cons_self))]
  · rename_i ds hne
    split at e
    · rename_i hb
      cases e
      cases r with
      | tup e1 r1 l1 =>
        have hg : gT K tg = gTup K tg.length (gNs tg) := by
          unfold gT
          split
          · simp at hb
          · rfl
        rw [hg]
        exact ⟨_, _, rfl, SqT.of (R.h.fh _ _ e1), by rw [← r1.length]; exact hb.1.symm, gNs_go R r1 hb.1 k⟩
    · cases e
  · cases e
end
section
variable {X : Cx}
theorem assignEach_names {f : Nat → Str → Bool} (env : Env) : ∀ {is : List Nat} {es : List Expr}, chkNs f is es = true → (assignEach es env).length = is.length ∧ (assignEach es env).findIdx? (·.1) = none
  | [], [], _ => ⟨rfl, rfl⟩
  | i :: is, e :: es, h => by
    cases e <;> first | (exact Bool.noConfusion (show false = true from h)) | skip
    rw [chkNs, Bool.and_eq_true] at h
    obtain ⟨h1, h2⟩ := assignEach_names env h.2
    refine ⟨?_, ?_⟩
    · show (_ :: assignEach es env).length = _
      rw [List.length_cons, h1, List.length_cons]
    · show List.findIdx? _ ((false, _) :: assignEach es env) = none
      rw [List.findIdx?_cons]
      simp [h2]
  | [], _ :: _, h => by simp [chkNs] at h
  | _ :: _, [], h => by simp [chkNs] at h
theorem pgs_names {f : Nat → Str → Bool} (hp : ∀ i x p, f i x = true → PG X (.Name x p) (gName i)) : ∀ {is : List Nat} {es : List Expr}, chkNs f is es = true → PGs X es (gNs is)
  | [], [], _ => pgs_nil
  | i :: is, e :: es, h => by
    cases e <;> first | (exact Bool.noConfusion (show false = true from h)) | skip
    rw [chkNs, Bool.and_eq_true] at h
    exact pgs_cons (hp _ _ _ h.1) (pgs_names hp h.2)
  | [], _ :: _, h => by simp [chkNs] at h
  | _ :: _, [], h => by simp [chkNs] at h
theorem pg_T1 {f : Nat → Str → Bool} (hp : ∀ i x p, f i x = true → PG X (.Name x p) (gName i)) {i : Nat} {x : Str} {p : Pos} (h : f i x = true) : PG X (.Name x p) (gT X.K [i]) := hp _ _ _ h
theorem pg_T {f : Nat → Str → Bool} (hc : X.calm = true) (hp : ∀ i x p, f i x = true → PG X (.Name x p) (gName i)) {is : List Nat} {es : List Expr} {k : Nat} {p : Pos} (h2 : (2 ≤ is.length) ) (h : chkNs f is es = true) : PG X (.Tuple es k p) (gT X.K is) := by
  have hg : gT X.K is = gTup X.K is.length (gNs is) := by
    unfold gT
    split
    · simp at h2
    · rfl
  rw [hg]
  obtain ⟨a, b⟩ := assignEach_names X.env h
  exact pg_tup hc (pgs_names hp h) a b
end

def tTs (C : Ct) (Φ : Fns) : Option E → TT
  | none => tYes
  | some c => tT C Φ c
def C0 (C : Ct) : Ct := { C with W := fun _ _ _ _ => False }
section
variable {C : Ct} {Φ : Fns} {B : Base} {G : Gh} {S : Sg} {σ σ' : L2.St} {H : Hp} {K : PySem.W.Frag} {h : Hd} {d : D} {v : V} {cl : Cls}
theorem lcLoop_ok {step : D → Sg → Out (Option D)} {ok : Sg → Bool} : ∀ (xs acc : List D) (S : Sg), (∃ r S', lcLoop step ok xs acc S = .ok r S') ∨ lcLoop step ok xs acc S = .no
  | [], acc, S => .inl ⟨acc, S, rfl⟩
  | x :: xs, acc, S => by
    rw [lcLoop]
    split
    · split
      · exact lcLoop_ok xs _ _
      · exact .inr rfl
    · exact .inr rfl
theorem rdH_wipe {vs : List Nat} (h1 : srcOut vs h = true) : rdH { S with env := wipeE S.env vs } h = rdH S h := by
  cases h with
  | now d => rfl
  | slot i =>
    simp only [srcOut, Bool.not_eq_true', List.contains_eq_mem, decide_eq_false_iff_not] at h1
    simp only [rdH]
    rw [wipeE, foldl_set_out (fun _ => Slot.no) vs _ i h1]
theorem lc_go {vs tg : List Nat} {rg : Bool} {it elt : E} {cond : Option E} {Q : VK} (htg : ∀ i ∈ tg, i ∈ vs) (q : tX C Φ (.lc vs elt tg rg it cond) σ H Q) :
    tLc (tI K C Φ rg it) (gT K tg) (tTs (C0 C) Φ cond) (tX (C0 C) Φ elt) vs σ H Q := by
  obtain ⟨B, G, S, R, q⟩ := q
  simp only [evX] at q
  refine I_go R (Aft.bind q) (fun h1 G1 S1 H1 k1 => ?_) fun h1 G1 S1 H1 v d items J l1 R1 r1 k1 e1 src hrd hlim => ?_
  · cases e : srcOf rg h1 S1 with
    | none => simp only [e] at k1; exact k1.elim
    | some p => exact ⟨p.1, p.2, rfl⟩
  simp only [e1] at k1
  cases hb : (notOwn S1.env vs && srcOut vs h1) with
  | false => rw [hb] at k1; exact k1.elim
  | true =>
    rw [hb] at k1
    simp only [if_true] at k1
    rw [Bool.and_eq_true] at hb
    obtain ⟨hno, hso⟩ := hb
    rcases lcLoop_ok (step := lcTurn vs tg (evC Φ cond) (evX Φ elt)) (ok := stillSrc rg h1 d) items [] S1 with ⟨accF, SF, hF⟩ | hF
    case inr => rw [hF] at k1; exact k1.elim
    rw [hF] at k1
    simp only [Out.bind_ok] at k1
    intro D hD
    have bes := R1.bes hD
    -- the walked thing on wiped slots
    have rw1 : RelHd G1 (wipe σ vs) h1 v := by
      cases h1 with
      | now d => exact r1
      | slot i =>
        simp only [srcOut, Bool.not_eq_true', List.contains_eq_mem, decide_eq_false_iff_not] at hso
        show (wipe σ vs)[i]? = some (some v)
        rw [wipe_out hso]; exact r1
    have src := src _ rw1
    let W : Nat → Nat → Hp → Prop := fun i m H' => m + i = items.length ∧ ∃ G' S' acc avs, G1.Le G' ∧ RR C.cl (B.hold D avs) G' { S' with env := wipeE S'.env vs } (wipe σ vs) H' ∧ RelDs G' acc avs ∧ acc.length ≤ i ∧
      lcLoop (lcTurn vs tg (evC Φ cond) (evX Φ elt)) (stillSrc rg h1 d) (items.drop i) acc S' = .ok accF SF ∧ (rg = true ∨ rdH S' h1 = some d)
    refine ⟨W, ⟨items.length, rfl, G1, S1, [], [], .refl G1, (R1.wiped (vs := vs)).hold hD, .nil, Nat.zero_le _, by rw [List.drop_zero]; exact hF, hrd⟩, ?_⟩
    rintro i m H' ⟨hm, G', S', acc, avs, l', R', ra, ha, hL, hr⟩
    have hr2 : rg = true ∨ rdH { S' with env := wipeE S'.env vs } h1 = some d := by rw [rdH_wipe hso]; exact hr
    by_cases hi : i < items.length
    · refine .inr ⟨src.go _ _ _ _ _ i l' R' hr2 hi, W (i + 1) (m - 1), fun H2 w => ⟨m - 1, by omega, w⟩, fun x H2 hy => ?_⟩
      obtain ⟨hH2, hx⟩ := src.yld _ _ _ _ _ i x H2 l' R' hr2 hy
      subst hH2
      rw [List.drop_eq_getElem_cons hi, lcLoop] at hL
      have rx := hx _ (List.getElem?_eq_getElem hi)
      generalize hst : lcTurn vs tg (evC Φ cond) (evX Φ elt) items[i] S' = o at hL
      unfold lcTurn at hst
      cases o with
      | ex x s => cases hL
      | no => cases hL
      | ok o S2 =>
        simp only [] at hL
        split at hL
        case isFalse => cases hL
        rename_i hstill
        have hr3 : rg = true ∨ rdH S2 h1 = some d := by
          unfold stillSrc at hstill
          rw [Bool.or_eq_true] at hstill
          exact hstill.imp id still_eq
        split at hst
        · cases hst
        · rename_i env henv
          refine gT_go R' rx henv fun σ2 R2 hl2 ho2 => ?_
          have hw : wipe σ2 vs = wipe σ vs := by
            rw [wipe_same hl2 (fun j hj => ho2 j (fun z => hj (htg j z)))]
            exact wipe_same (wipe_length σ vs) fun j hj => wipe_out hj
          refine ⟨hw, ?_⟩
          -- the element
          have elt_go : ∀ (S3 : Sg) (G3 : Gh) (H3 : Hp), G'.Le G3 → RR C.cl (B.hold D avs) G3 S3 σ2 H3 → ((evX Φ elt S3).bind fun r S' => .ok (some r.frz) S') = .ok o S2 →
              tX (C0 C) Φ elt σ2 H3 fun y H4 => ∃ acc, H4 D = some (.lst acc) ∧ acc.length < sizeLine ∧ W (i + 1) (m - 1) (upd H4 D (.lst (acc ++ [y]))) := by
            intro S3 G3 H3 l3 R3 he
            refine ⟨_, G3, S3, R3, ?_⟩
            cases hev : evX Φ elt S3 with
            | ex x s => rw [hev] at he; cases he
            | no => rw [hev] at he; cases he
            | ok r S4 =>
              rw [hev] at he
              cases he
              intro G4 H4 l4 R4 y ry
              obtain ⟨G5, l5, R5, rd⟩ := R4.freeze ry
              refine ⟨avs, R5.held bes, ?_, by omega, G5, S2, acc ++ [r.frz], avs ++ [y], (l'.trans (l3.trans (l4.trans l5))), ?_, (ra.mono (l3.trans (l4.trans l5))).append (.cons rd .nil), by simp; omega, hL, hr3⟩
              · have := ra.length
                have hs : LIM < sizeLine := by decide
                omega
              · have := (R5.held2 bes (avs ++ [y])).wiped (vs := vs)
                rw [hw] at this
                exact this
          cases cond with
          | none =>
            simp only [evC] at hst
            simp only [tTs, tYes, if_true]
            exact elt_go _ G' H2 (.refl G') R2 hst
          | some c =>
            simp only [evC] at hst
            show tT (C0 C) Φ c σ2 H2 _
            refine ⟨_, G', _, R2, ?_⟩
            cases hev : evX Φ c { S' with env := env } with
            | ex x s => rw [hev] at hst; cases hst
            | no => rw [hev] at hst; cases hst
            | ok r S3 =>
              rw [hev] at hst
              simp only [Out.bind_ok] at hst
              intro G3 H3 l3 R3
              split at hst
              · simp only [if_true]
                exact elt_go _ G3 H3 l3 R3 hst
              · simp only [Bool.false_eq_true, if_false]
                cases hst
                have := R3.wiped (vs := vs)
                rw [hw] at this
                refine ⟨by omega, G3, S2, acc, avs, l'.trans l3, this, ra.mono l3, by omega, ?_, hr3⟩
                simpa using hL
              · cases hst
    · have hi' : i = items.length := by omega
      subst hi'
      rw [List.drop_length, lcLoop] at hL
      cases hL
      refine .inl ⟨src.stop _ _ _ _ _ l' R' hr2, ?_⟩
      have R6 := RR.back2 R1 l' hno (R'.unhold bes)
      refine k1 G' H' l' R6 _ ⟨D, _, rfl, R'.held bes, ⟨ra, by omega⟩, R'.heldF bes, R'.heldR bes, bes.h, fun j m' e z => ?_⟩
      obtain ⟨a, o, e1, e2, r, f1, f2, f3⟩ := (RR.back2 R1 l' hno R').s.own j m' e
      rw [z] at e1; cases e1
      have y' : upd B.H D (.lst avs) D = none := f3
      rw [upd_same] at y'; cases y'
end
end Tk
namespace Tk
open PySem L2 PySem.W
theorem run_ps {T : String → Option Fd} {k : Nat} {f : String} {fd : Fd} (h : T f = some fd) (ds : List D) (st : List SO) (hl : ds.length ≠ fd.ps) : run T k f ds st = .no := by
  cases k with
  | zero => rfl
  | succ k => rw [run, h]; simp only [runD]; rw [if_neg hl]
theorem GX.blk {X : Cx} {C : Ct} {T : String → Option Fd} {k : Nat} (g : GX X C T k) (s : Shared) (H : Hp) (scope : Scope) (ce : Env) (fp : List Addr) : GX (X.blk s H scope ce fp) (C0 C) T k where
  calm := g.calm
  nd := g.nd
  room := g.room
  blt := g.blt
  fns := fun f fd h => ⟨(g.fns f fd h).ex⟩
  own := PassesOwn.never
  tk := takes0
  zz := g.zz
theorem okN_pg {X : Cx} (nd : X.N.Nodup) (s : Shared) (H : Hp) (scope : Scope) (C : Addr) (cl : List (Str × Addr)) (fp : List Addr) {vs : List Nat} {i : Nat} {x : Str} {p : Pos} (h : okN X.N scope vs i x = true) :
    PG (X.blk s H scope (compEnvC scope cl C X.env) fp) (.Name x p) (gName i) := by
  simp only [okN, Bool.and_eq_true, decide_eq_true_eq] at h
  have hl := isLoc_ok h.2.1
  have hsc : (compEnvC scope cl C X.env).scope = relS scope X.env.scope := rfl
  refine pg_name nd h.1 ?_ ?_
  · show Loc (relS scope X.env.scope) x
    rcases hl with q | q
    · exact .inl (lookup_relS_keep (by simp) q)
    · exact .inr (lookup_relS_keep (by simp) q)
  · rcases hl with q | q
    · exact .inr (by show (relS scope X.env.scope).names.lookup x = _; exact lookup_relS_keep (by simp) q)
    · refine .inl ?_
      show (scope.names.lookup x == some .cell) = true
      rw [q]; rfl
theorem chkNs_in {N : List Str} {sc : Scope} {vs : List Nat} : ∀ {is : List Nat} {es : List Expr}, chkNs (okN N sc vs) is es = true → ∀ i ∈ is, i ∈ vs
  | [], _, _, i, hi => by cases hi
  | j :: is, e :: es, h, i, hi => by
    cases e <;> first | (exact Bool.noConfusion (show false = true from h)) | skip
    rw [chkNs, Bool.and_eq_true] at h
    rcases List.mem_cons.mp hi with z | z
    · subst z
      have := h.1
      simp only [okN, Bool.and_eq_true, decide_eq_true_eq] at this
      exact this.2.2
    · exact chkNs_in h.2 i z
  | _ :: _, [], h, _, _ => by simp [chkNs] at h
theorem chkTgs_in {N : List Str} {sc : Scope} {vs is : List Nat} {t : Expr} (h : chkTgs N sc is t vs = true) : ∀ i ∈ is, i ∈ vs := by
  unfold chkTgs at h
  split at h
  · intro i hi
    cases List.mem_singleton.mp hi
    simp only [okN, Bool.and_eq_true, decide_eq_true_eq] at h
    exact h.2.2
  · rw [Bool.and_eq_true] at h
    exact chkNs_in h.2
  · cases h
theorem chkTgs_pg {X : Cx} (cm : X.calm = true) (nd : X.N.Nodup) (s : Shared) (H : Hp) (scope : Scope) (C : Addr) (cl : List (Str × Addr)) (fp : List Addr) {vs is : List Nat} {t : Expr} (h : chkTgs X.N scope is t vs = true) :
    PG (X.blk s H scope (compEnvC scope cl C X.env) fp) t (gT X.K is) := by
  unfold chkTgs at h
  split at h
  · exact okN_pg nd s H scope C cl fp h
  · rw [Bool.and_eq_true, decide_eq_true_eq] at h
    exact pg_T (X := X.blk s H scope (compEnvC scope cl C X.env) fp) cm (fun i x p q => okN_pg nd s H scope C cl fp q) h.1 h.2
  · cases h
theorem roomU {k : Nat} {A : Around} (h : Room k A) : A.units + 200 < cLine := by
  obtain ⟨_, h⟩ := h
  omega

def fsOf (T : String → Option Fd) (f : String) : Bool := (T f).isSome
structure Snd (T : String → Option Fd) (k n : Nat) : Prop where
  e : ∀ {X : Cx} {C : Ct} {c : E} {e : Expr}, GX X C T k → chkE (fsOf T) n X.N X.env.scope c e = true → PE X e (tX C (run T k) c)
  h : ∀ {X : Cx} {C : Ct} {c : E} {e : Expr}, GX X C T k → chkE (fsOf T) n X.N X.env.scope c e = true → PE X e (tH C (run T k) c)
  t : ∀ {X : Cx} {C : Ct} {c : E} {e : Expr}, GX X C T k → chkT (fsOf T) n X.N X.env.scope c e = true → PT X e (tT C (run T k) c)
  w : ∀ {X : Cx} {C : Ct} {c : E} {o : BoolOp} {xs : List Expr} {p : Pos}, GX X C T k → chkT (fsOf T) n X.N X.env.scope c (.BoolOp o xs p) = true → PW X (.BoolOp o xs p) (tT C (run T k) c)
  o : ∀ {X : Cx} {C : Ct} {c : Option E} {e : Option Expr}, GX X C T k → chkO (fsOf T) n X.N X.env.scope c e = true → PO X e (tO C (run T k) c)
  i : ∀ {X : Cx} {C : Ct} {c : E} {rg : Bool} {tg e : Expr}, GX X C T k → chkI (fsOf T) n X.N X.env.scope rg c e = true → PI X tg e (tI X.K C (run T k) rg c)
theorem chkI_set {fs : String → Bool} {n : Nat} {N : List Str} {sc : Scope} {rg : Bool} {c : E} {e : Expr} (h : chkI fs n N sc rg c e = true) (env : Env) (x : Value) : foldedSetIterable e env x = pure x := by
  cases n with
  | zero => simp [chkI] at h
  | succ n =>
    cases rg with
    | false =>
      rw [chkI, Bool.and_eq_true] at h
      exact notSet_ok h.1 env x
    | true =>
      refine notSet_ok ?_ env x
      cases e <;> first | rfl | (simp [chkI] at h)
theorem snd_zero (T : String → Option Fd) (k : Nat) : Snd T k 0 where
  e := fun _ h => by simp [chkE] at h
  h := fun _ h => by simp [chkE] at h
  t := fun _ h => by simp [chkT] at h
  w := fun _ h => by simp [chkT] at h
  o := fun _ h => by simp [chkO] at h
  i := fun _ h => by simp [chkI] at h
section
variable {T : String → Option Fd} {k n : Nat}
theorem snd_t (I : Snd T k n) {X : Cx} {C : Ct} {c : E} {e : Expr} (g : GX X C T k) (h : chkT (fsOf T) (n + 1) X.N X.env.scope c e = true) : PT X e (tT C (run T k) c) ∧ ∀ o xs p, e = .BoolOp o xs p → PW X e (tT C (run T k) c) := by
  have hu := roomU g.room
  unfold chkT at h
  split at h
  · exact ⟨snd_notT (I.t g h), fun _ _ _ e => by cases e⟩
  · rw [Bool.and_eq_true] at h
    suffices hh : PW X _ _ from ⟨hh.pt, fun _ _ _ _ => hh⟩
    refine snd_andT (I.t g h.1) ?_
    have h2 := h.2
    split at h2
    · rename_i hys
      rw [List.isEmpty_iff] at hys
      subst hys
      exact snd_and1T (I.t g h2)
    · exact I.w g h2
  · rw [Bool.and_eq_true] at h
    suffices hh : PW X _ _ from ⟨hh.pt, fun _ _ _ _ => hh⟩
    refine snd_orT (I.t g h.1) ?_
    have h2 := h.2
    split at h2
    · rename_i hys
      rw [List.isEmpty_iff] at hys
      subst hys
      exact snd_or1T (I.t g h2)
    · exact I.w g h2
  · simp only [Bool.and_eq_true, decide_eq_true_eq] at h
    obtain ⟨rfl, h1, h2, h3⟩ := h
    exact ⟨snd_cmpT (by omega) (I.h g h1) (I.h g h2) h3, fun _ _ _ e => by cases e⟩
  · exact ⟨snd_isNT (I.h g h), fun _ _ _ e => by cases e⟩
  · exact ⟨snd_notNT (I.h g h), fun _ _ _ e => by cases e⟩
  · simp only [Bool.and_eq_true, decide_eq_true_eq] at h
    obtain ⟨rfl, rfl, h1, h2, h3, h4, h5⟩ := h
    exact ⟨snd_chainT (by omega) (I.h g h1) (I.h g h2) (I.h g h3) h4 h5, fun _ _ _ e => by cases e⟩
  · rw [Bool.and_eq_true] at h
    refine ⟨snd_truth h.1 (I.h g h.2), fun o xs p e => ?_⟩
    subst e
    exact Bool.noConfusion (show false = true from h.1)
  · cases h
theorem snd_e (I : Snd T k n) {X : Cx} {C : Ct} {c : E} {e : Expr} (g : GX X C T k) (hb : ∀ x ∈ bltNames, X.mg x = none) (h : chkE (fsOf T) (n + 1) X.N X.env.scope c e = true) : PE X e (tX C (run T k) c) := by
  have hu := roomU g.room
  unfold chkE at h
  split at h
  · exact snd_varX h
  · exact snd_non
  · rw [decide_eq_true_eq] at h; subst h; exact snd_bl
  · rw [decide_eq_true_eq] at h; subst h; exact snd_int
  · rw [decide_eq_true_eq] at h; subst h; exact snd_str
  · simp only [Bool.and_eq_true, decide_eq_true_eq] at h
    exact snd_tup (pa_X (fun c e q => I.e g q) h.1 h.2.1) h.2.2
  · simp only [Bool.and_eq_true, decide_eq_true_eq] at h
    exact snd_lst (pa_X (fun c e q => I.e g q) h.1 h.2.1) h.2.2
  · simp only [Bool.and_eq_true, decide_eq_true_eq] at h
    obtain ⟨rfl, h1, h2⟩ := h
    exact snd_bin (I.h g h1) (I.h g h2)
  · exact snd_neg (I.e g h)
  · simp only [Bool.and_eq_true, decide_eq_true_eq] at h
    obtain ⟨rfl, h1, h2, h3⟩ := h
    exact snd_cmp (by omega) (I.h g h1) (I.h g h2) h3
  · exact snd_isN (I.h g h)
  · exact snd_notN (I.h g h)
  · simp only [Bool.and_eq_true, decide_eq_true_eq] at h
    obtain ⟨rfl, rfl, h1, h2, h3, h4, h5⟩ := h
    exact snd_chain (by omega) (I.h g h1) (I.h g h2) (I.h g h3) h4 h5
  · exact snd_not (I.e g h)
  · rw [Bool.and_eq_true] at h
    refine snd_and (I.e g h.1) ?_
    have h2 := h.2
    split at h2
    · rename_i hys
      rw [List.isEmpty_iff] at hys
      subst hys
      exact pe_one (I.e g h2)
    · exact I.e g h2
  · rw [Bool.and_eq_true] at h
    refine snd_or (I.e g h.1) ?_
    have h2 := h.2
    split at h2
    · rename_i hys
      rw [List.isEmpty_iff] at hys
      subst hys
      exact pe_one (I.e g h2)
    · exact I.e g h2
  · simp only [Bool.and_eq_true] at h
    exact snd_ife (I.t g h.1) (I.e g h.2.1) (I.e g h.2.2)
  · simp only [Bool.and_eq_true] at h
    exact snd_slc (I.h g h.1) (I.o g h.2.1) (I.o g h.2.2)
  · simp only [Bool.and_eq_true] at h
    exact snd_idx g.zz (by omega) (I.h g h.1) (I.h g h.2.1) h.2.2
  · simp only [Bool.and_eq_true, decide_eq_true_eq, Bool.not_eq_true'] at h
    obtain ⟨rfl, h0, h1, h2, h3, h4⟩ := h
    obtain ⟨fd, hfd⟩ := Option.isSome_iff_exists.mp h0
    exact snd_call (g.fns _ _ hfd) g.room g.tk (isGl_ok h1) h2 (fun ds st hl => run_ps hfd ds st hl) (pa_X (fun c e q => I.e g q) h3 h4) h4
  · simp only [Bool.and_eq_true, decide_eq_true_eq] at h
    obtain ⟨rfl, rfl, h1, h2, h3, h4⟩ := h
    exact snd_tupRg g.calm (isGl_ok h1) (hb _ (by decide)) (isGl_ok h2) (hb _ (by decide)) (I.h g h3) h4
  · simp only [Bool.and_eq_true, decide_eq_true_eq] at h
    obtain ⟨rfl, rfl, h1, h2, h3, h4⟩ := h
    exact snd_lstRg g.calm (isGl_ok h1) (hb _ (by decide)) (isGl_ok h2) (hb _ (by decide)) (I.h g h3) h4
  · simp only [Bool.and_eq_true, decide_eq_true_eq] at h
    obtain ⟨h0, h1, h2, h3, h4⟩ := h
    subst h1
    exact snd_bif g.zz g.calm (by omega) h0 rfl (isGl_ok h2) (hb _ (by rename_i f _ _ _ _ _ _ _; cases f <;> first | decide | (cases h0))) (pa_H (fun c e q => I.h g q) h3 h4) h4
  · simp only [Bool.and_eq_true, decide_eq_true_eq] at h
    obtain ⟨rfl, rfl, h1, h2, h3, h4⟩ := h
    exact snd_isi (isGl_ok h1) (hb _ (by decide)) (isGl_ok h2) (hb _ (by rename_i t _ _ _ _; cases t <;> decide)) (I.h g h3) h4
  · exact snd_dct0
  · exact imp (I.e g h) fun _ _ _ => val_imp
  · exact imp (I.e g h) fun _ _ _ => mk_imp
  · simp only [Bool.and_eq_true] at h
    obtain ⟨h1, h2, h3, h4, h5⟩ := h
    rename_i vs elt tg rg it cond x t i ifs scope p
    have hov : (vs.map fun v => (X.N.getD v "", v)).map (·.2) = vs := by rw [List.map_map]; exact List.map_id'' (fun _ => rfl) vs
    have hsc : ∀ (C : Addr) (cl : List (Str × Addr)), (compEnvC scope cl C X.env).scope = relS scope X.env.scope := fun _ _ => rfl
    refine imp (t' := tX C (run T k) (.lc vs elt tg rg it cond)) (pe_lc (tt := tTs (C0 C) (run T k) cond) (te := tX (C0 C) (run T k) elt) g.calm g.nd (I.i g h3) (blkOk_by h1) (fun s H Cc cl fp => chkTgs_pg g.calm g.nd s H scope Cc cl fp h2) (fun s H Cc cl fp => ?_) (fun s H Cc cl fp => I.e (g.blk s H scope _ fp) h4) (chkI_set h3 X.env)) fun σ H Q q => ?_
    · cases cond with
      | none => cases ifs with
        | nil => exact pts_nil
        | cons a b => cases h5
      | some c => cases ifs with
        | nil => cases h5
        | cons a b => cases b with
          | nil => exact pts_one (I.t (g.blk s H scope _ fp) h5)
          | cons _ _ => cases h5
    · rw [hov]
      exact lc_go (chkTgs_in h2) q
  · cases h
end
end Tk
namespace Tk
open PySem L2 PySem.W
section
variable {T : String → Option Fd} {k n : Nat}
theorem h_of {X : Cx} {C : Ct} {c : E} {e : Expr} {fs : String → Bool} (h : chkE fs n X.N X.env.scope c e = true) (q : PE X e (tX C (run T k) c)) : PE X e (tH C (run T k) c) := by
  cases c with
  | var i =>
    cases n with
    | zero => simp [chkE] at h
    | succ n =>
      cases e <;> first | (simp [chkE] at h; done) | skip
      simp only [chkE] at h
      exact snd_var h
  | _ => exact q
theorem snd_all (T : String → Option Fd) (k : Nat) : ∀ n, Snd T k n
  | 0 => snd_zero T k
  | n + 1 => by
    have I := snd_all T k n
    have he : ∀ {X : Cx} {C : Ct} {c : E} {e : Expr}, GX X C T k → chkE (fsOf T) (n + 1) X.N X.env.scope c e = true → PE X e (tX C (run T k) c) := fun g h => snd_e I g g.blt h
    refine ⟨he, fun g h => h_of h (he g h), fun g h => (snd_t I g h).1, fun g h => (snd_t I g h).2 _ _ _ rfl, fun {X C c e} g h => ?_, fun {X C c rg tg e} g h => ?_⟩
    · cases c with
      | none => cases e with
        | none => exact po_none
        | some e => simp [chkO] at h
      | some c => cases e with
        | none => simp [chkO] at h
        | some e => rw [chkO] at h; exact po_some (I.e g h)
    · cases rg with
      | false =>
        rw [chkI, Bool.and_eq_true] at h
        exact pi_seq (I.h g h.2)
      | true =>
        unfold chkI at h
        split at h
        · simp only [Bool.and_eq_true, decide_eq_true_eq] at h
          obtain ⟨rfl, h1, h2, h3⟩ := h
          exact pi_range1 (isGl_ok h1) (g.blt _ (by decide)) (pa_cons (I.h g h2) pa_nil (notStar_ok h3 _ _)) (notStar_ok h3 _ _)
        · cases h
        · rename_i z; cases z
end
end Tk
namespace Tk
open PySem L2 PySem.W
section
variable {C : Ct} {Φ : Fns} {B : Base} {G : Gh} {S : Sg} {σ σ' : L2.St} {H : Hp} {K : PySem.W.Frag} {h : Hd} {d : D} {v : V} {cl : Cls} {i : Nat} {m m' : MO} {a : Addr} {o o' : HO}
theorem set_cs {α : Type} {xs : List α} {i j : Nat} {x y : α} (h : (xs.set i x)[j]? = some y) : (i = j ∧ x = y ∧ i < xs.length) ∨ (i ≠ j ∧ xs[j]? = some y) := by
  by_cases z : i = j
  · subst z
    have hi : i < xs.length := by simpa using (List.getElem?_eq_some_iff.mp h).1
    rw [List.getElem?_set_self hi] at h
    cases h; exact .inl ⟨rfl, rfl, hi⟩
  · rw [List.getElem?_set_ne z] at h
    exact .inr ⟨z, h⟩
theorem nodup_ix {α : Type} : ∀ {l : List α} {i j : Nat} {a : α}, l.Nodup → l[i]? = some a → l[j]? = some a → i = j
  | x :: xs, 0, 0, a, _, _, _ => rfl
  | x :: xs, 0, j + 1, a, h, h1, h2 => by
    simp at h1 h2; subst h1
    exact absurd (List.mem_of_getElem? h2) (List.nodup_cons.mp h).1
  | x :: xs, i + 1, 0, a, h, h1, h2 => by
    simp at h1 h2; subst h2
    exact absurd (List.mem_of_getElem? h1) (List.nodup_cons.mp h).1
  | x :: xs, i + 1, j + 1, a, h, h1, h2 => by
    exact congrArg (· + 1) (nodup_ix (l := xs) (i := i) (j := j) (a := a) (List.nodup_cons.mp h).2 (by simpa using h1) (by simpa using h2))
  | [], _, _, _, _, h, _ => by simp at h
/-- a slot gets a thing that nobody else holds -/
theorem RR.setO (R : RR cl B G S σ H) (r : RelRv B G H S.env σ (.own m) v) : RR cl B G { S with env := S.env.set i (.own m) } (σ.set i (some v)) H := by
  obtain ⟨a, o, rfl, e2, r, f1, f2, f3, no⟩ := r
  refine ⟨R.h, ⟨fun j e q => ?_, fun j m1 q => ?_, fun j j' m1 m2 b q q' e e' => ?_, by simpa using R.s.len⟩⟩
  · rcases set_cs q with ⟨_, z, _⟩ | ⟨z, q'⟩
    · cases z
    · rw [List.getElem?_set_ne z]; exact R.s.val j e q'
  · rcases set_cs q with ⟨z, z2, hl⟩ | ⟨z, q'⟩
    · subst z; cases z2
      refine ⟨a, o, by rw [List.getElem?_set_self (by rw [← R.s.len]; exact hl)], e2, r, f1, f2, f3⟩
    · rw [List.getElem?_set_ne z]; exact R.s.own j m1 q'
  · rcases set_cs q with ⟨z, z2, hl⟩ | ⟨z, y⟩
    · rcases set_cs q' with ⟨z', _, _⟩ | ⟨z', y'⟩
      · rw [← z, ← z']
      · subst z
        rw [List.getElem?_set_self (by rw [← R.s.len]; exact hl)] at e
        cases e
        rw [List.getElem?_set_ne z'] at e'
        exact absurd e' (no j' m2 y')
    · rw [List.getElem?_set_ne z] at e
      rcases set_cs q' with ⟨z', _, hl'⟩ | ⟨z', y'⟩
      · subst z'
        rw [List.getElem?_set_self (by rw [← R.s.len]; exact hl')] at e'
        cases e'
        exact absurd e (no j m1 y)
      · rw [List.getElem?_set_ne z'] at e'
        exact R.s.sep j j' m1 m2 b y y' e e'
theorem getM_rel (R : RR cl B G S σ H) (r : RelHd G σ h v) (e : getM S h = some m) : ∃ a o, v = .ref a ∧ H a = some o ∧ RelMO G m o ∧
    ∀ m' o', RelMO G m' o' → RR cl B G (putM S m' h) σ (upd H a o') := by
  -- the store's object n
  have stc : ∀ (n : Nat) (b : Addr) (S' : Sg), S'.env = S.env → G.r[n]? = some b → S.st[n]? = some (.mo m) → ∃ o, H b = some o ∧ RelMO G m o ∧ ∀ m' o', RelMO G m' o' → RR cl B G { S with st := S.st.set n (.mo m') } σ (upd H b o') := by
    intro n b S' _ hb hs
    obtain ⟨b', e1, o, e2, r2⟩ := R.h.sto n _ hs
    rw [hb] at e1; cases e1
    refine ⟨o, e2, r2, fun m' o' r' => ?_⟩
    have hm : b ∈ G.r := List.mem_of_getElem? hb
    have nf := R.h.rf b hm
    have nu : ∀ j, j ≠ n → G.r[j]? ≠ some b := fun j hj z => by
      exact hj (nodup_ix R.h.nd z hb)
    refine ⟨⟨fun x u q nn => ?_, fun x u q => ?_, R.h.fe, R.h.bf, R.h.hz, R.h.re, R.h.nd, R.h.rf, ?_, fun j o1 q => ?_⟩, ⟨R.s.val, fun j m1 q => ?_, R.s.sep, R.s.len⟩⟩
    · by_cases z : x = b
      · subst z
        obtain ⟨t, t1, t2⟩ := R.h.re
        rw [t1] at hm
        rcases List.mem_append.mp hm with y | y
        · exact absurd y nn
        · rw [t2 x y] at q; cases q
      · rw [upd_ne z]; exact R.h.fr x u q nn
    · rw [upd_ne (fun z => by subst z; rw [nf] at q; cases q)]; exact R.h.fh x u q
    · show (S.st.set n _).length = _
      rw [List.length_set]; exact R.h.len
    · rcases set_cs q with ⟨z, z2, _⟩ | ⟨z, q'⟩
      · subst z; subst z2
        exact ⟨b, hb, o', upd_same, r'⟩
      · obtain ⟨c, c1, c2⟩ := R.h.sto j o1 q'
        exact ⟨c, c1, c2.heap (upd_ne fun y => by subst y; exact nu j (Ne.symm z) c1)⟩
    · obtain ⟨c, o1, e1, g2, q2, g3, g4, g5⟩ := R.s.own j m1 q
      exact ⟨c, o1, e1, by rw [upd_ne (fun y => by subst y; exact g4 hm)]; exact g2, q2, g3, g4, g5⟩
  cases h with
  | now d =>
    cases d <;> first | (simp only [getM] at e; cases e; done) | skip
    rename_i n
    simp only [getM] at e
    split at e
    · rename_i mm q
      cases e
      cases (show RelD G (.ref n) v from r) with
      | ref hb =>
        rename_i b
        obtain ⟨o, e2, r2, k⟩ := stc n b S rfl hb q
        exact ⟨b, o, rfl, e2, r2, fun m' o' r' => k m' o' r'⟩
    · cases e
  | slot i =>
    simp only [getM] at e
    split at e
    · rename_i mm q
      cases e
      obtain ⟨b, o, e1, e2, r2, f1, f2, f3⟩ := R.s.own i _ q
      rw [show σ[i]? = some (some v) from r] at e1
      cases e1
      refine ⟨b, o, rfl, e2, r2, fun m' o' r' => ?_⟩
      have he : putM S m' (.slot i) = { S with env := S.env.set i (.own m') } := by simp only [putM, q]
      rw [he]
      refine ⟨⟨fun x u g nn => ?_, fun x u g => ?_, R.h.fe, R.h.bf, R.h.hz, R.h.re, R.h.nd, R.h.rf, R.h.len, fun j o1 g => ?_⟩, ⟨fun j d1 g => ?_, fun j m1 g => ?_, fun j j' m1 m2 c g g' y y' => ?_, by simpa using R.s.len⟩⟩
      · rw [upd_ne (fun z => by subst z; rw [f3] at g; cases g)]; exact R.h.fr x u g nn
      · rw [upd_ne (fun z => by subst z; rw [f1] at g; cases g)]; exact R.h.fh x u g
      · obtain ⟨c, c1, c2⟩ := R.h.sto j o1 g
        exact ⟨c, c1, c2.heap (upd_ne fun y => by subst y; exact f2 (List.mem_of_getElem? c1))⟩
      · rcases set_cs g with ⟨_, z, _⟩ | ⟨_, g'⟩
        · cases z
        · exact R.s.val j d1 g'
      · rcases set_cs g with ⟨z, z2, _⟩ | ⟨z, g'⟩
        · subst z; cases z2
          exact ⟨b, o', r, upd_same, r', f1, f2, f3⟩
        · obtain ⟨c, o1, e1, g2, q2, g3, g4, g5⟩ := R.s.own j m1 g'
          refine ⟨c, o1, e1, ?_, q2, g3, g4, g5⟩
          rw [upd_ne (fun y => by subst y; exact z (R.s.sep i j _ _ c q g' r e1))]; exact g2
      · have un : ∀ (j : Nat) (m1 : MO), (S.env.set i (.own m'))[j]? = some (.own m1) → ∃ m2, S.env[j]? = some (.own m2) := fun j m1 g => by
          rcases set_cs g with ⟨z, _, _⟩ | ⟨_, g'⟩
          · exact ⟨_, z ▸ q⟩
          · exact ⟨_, g'⟩
        obtain ⟨_, u1⟩ := un j m1 g
        obtain ⟨_, u2⟩ := un j' m2 g'
        exact R.s.sep j j' _ _ c u1 u2 y y'
    · rename_i n q
      split at e
      · rename_i mm q2
        cases e
        obtain ⟨u, e1, r1⟩ := R.s.val i _ q
        rw [show σ[i]? = some (some v) from r] at e1
        cases e1
        cases r1 with
        | ref hb =>
          rename_i b
          obtain ⟨o, e2, r2, k⟩ := stc n b S rfl hb q2
          refine ⟨b, o, rfl, e2, r2, fun m' o' r' => ?_⟩
          have he : putM S m' (.slot i) = { S with st := S.st.set n (.mo m') } := by simp only [putM, q]
          rw [he]; exact k m' o' r'
      · cases e
    · cases e
theorem appM_rel (r : RelMO G m o) (rd : RelD G d v) (e : appM m d = some m') : ∃ xs, o = .lst xs ∧ xs.length < sizeLine ∧ RelMO G m' (.lst (xs ++ [v])) := by
  have hs : LIM < sizeLine := by decide
  cases m with
  | lst ds =>
    cases o <;> simp only [RelMO] at r
    rename_i xs
    simp only [appM] at e
    split at e
    · cases e
      have := r.1.length
      refine ⟨xs, rfl, by omega, r.1.append (.cons rd .nil), by simp; omega⟩
    · cases e
  | dct ks ds => cases e
theorem putK_rel {ks : List Int} {ds : List D} {kvs : List (Key × V)} {k : Int} (hk : kvs.map (·.1) = ks.map Sum.inl) (rs : RelDs G ds (kvs.map (·.2))) (rd : RelD G d v) :
    (putK kvs (.inl k) v).map (·.1) = (putKs ks k).map Sum.inl ∧ RelDs G (putV ks ds k d) ((putK kvs (.inl k) v).map (·.2)) := by
  have hany : (kvs.any fun kv => decide (kv.1 = (.inl k : Key))) = decide (k ∈ ks) := by
    induction kvs generalizing ks ds with
    | nil => cases ks with
      | nil => simp
      | cons a b => simp at hk
    | cons p kvs ih =>
      cases ks with
      | nil => simp at hk
      | cons j ks =>
        simp only [List.map_cons, List.cons.injEq] at hk
        cases rs with
        | cons r1 r2 =>
          rw [List.any_cons, ih hk.2 r2, hk.1]
          by_cases z : j = k
          · simp [z]
          · have z' : ¬ k = j := fun y => z y.symm
            simp [z, z']
  unfold putK putKs putV
  rw [hany]
  by_cases hm : k ∈ ks
  · simp only [hm, decide_true, if_true]
    clear hany hm
    induction kvs generalizing ks ds with
    | nil => cases ks with
      | nil => cases rs; exact ⟨rfl, .nil⟩
      | cons a b => simp at hk
    | cons p kvs ih =>
      cases ks with
      | nil => simp at hk
      | cons j ks =>
        simp only [List.map_cons, List.cons.injEq] at hk
        cases rs with
        | cons r1 r2 =>
          obtain ⟨g1, g2⟩ := ih hk.2 r2
          simp only [List.map_cons, List.zipWith_cons_cons]
          rw [hk.1]
          by_cases z : j = k
          · subst z
            simp only [if_true]
            exact ⟨by rw [g1], .cons rd g2⟩
          · have z2 : ¬ (Sum.inl j : Key) = .inl k := fun y => z (by injection y)
            simp only [z, z2, if_false]
            exact ⟨by rw [g1, hk.1], .cons r1 g2⟩
  · simp only [hm, decide_false, Bool.false_eq_true, if_false]
    refine ⟨by simp [hk], ?_⟩
    rw [List.map_append]
    exact rs.append (.cons rd .nil)
end
end Tk
namespace Tk
open PySem L2 PySem.W
def RRa (C : Ct) (B : Base) (G : Gh) (S : Sg) (f : Gh → L2.St → Hp → Prop) : Prop := ∀ G' H σ, G.Le G' → RR C.cl B G' S σ H → f G' σ H
def AftS (C : Ct) (B : Base) (G : Gh) (o : Out Fl) (D : Ends) : Prop := match o with
  | .ok .nx S => RRa C B G S fun _ σ H => D.nx σ H
  | .ok .bk S => RRa C B G S fun _ σ H => D.bk σ H
  | .ok (.rt r) S => RRa C B G S fun G' _ H => ∀ v, RelRet B G' H r v → D.rt v H
  | .ex x S => RRa C B G S fun G' σ H => ∀ cls d, C.xr x cls d G' H → C.W cls d σ H
  | .no => False
def tS (C : Ct) (Φ : Fns) (s : St) : TS := fun D σ H => ∃ B G S, RR C.cl B G S σ H ∧ AftS C B G (evS Φ s S) D
def tSs (C : Ct) (Φ : Fns) (s : List St) : TS := fun D σ H => ∃ B G S, RR C.cl B G S σ H ∧ AftS C B G (evSs Φ s S) D
section
variable {X : Cx} {C : Ct} {Φ : Fns} {B : Base} {G G1 : Gh} {S : Sg} {σ : L2.St} {H : Hp} {K : PySem.W.Frag} {h : Hd} {d : D} {v : V} {D D' : Ends} {o : Out Fl} {p : Pos}
theorem RRa.up {f : Gh → L2.St → Hp → Prop} (h : RRa C B G S f) (l : G.Le G1) : RRa C B G1 S f := fun G' H σ l' => h G' H σ (l.trans l')
theorem AftS.up (h : AftS C B G o D) (l : G.Le G1) : AftS C B G1 o D := by
  cases o with
  | ok fl S => cases fl <;> exact RRa.up h l
  | ex x S => exact RRa.up h l
  | no => exact h
/-- an expression first -/
theorem AftS.bind {α : Type} {e : Out α} {f : α → Sg → Out Fl} (h : AftS C B G (e.bind f) D) : Aft C B G σ e fun a G' S' H' => AftS C B G' (f a S') D := by
  cases e with
  | ok a S => exact fun G' H l R => AftS.up h l
  | ex x S => exact fun G' H cls d l R q => h G' H σ l R cls d q
  | no => exact h
/-- a statement first -/
theorem AftS.seq {f : Fl → Sg → Out Fl} (h : AftS C B G (o.bind f) D) (hn : ∀ S, f .nx S ≠ .no → f .bk S = .ok .bk S ∧ ∀ r, f (.rt r) S = .ok (.rt r) S) (hb : ∀ S, f .bk S = .ok .bk S) (hr : ∀ r S, f (.rt r) S = .ok (.rt r) S) :
    AftS C B G o { D with nx := fun σ H => ∃ G' S', RR C.cl B G' S' σ H ∧ AftS C B G' (f .nx S') D } := by
  cases o with
  | ok fl S =>
    cases fl with
    | nx => exact fun G' H σ l R => ⟨G', S, R, AftS.up h l⟩
    | bk =>
      have h' : AftS C B G (f .bk S) D := h
      rw [hb] at h'
      exact h'
    | rt r =>
      have h' : AftS C B G (f (.rt r) S) D := h
      rw [hr] at h'
      exact h'
  | ex x S => exact h
  | no => exact h
theorem AftS.mono (h : AftS C B G o D) (f : D = D' ∨ ((∀ σ H, D.nx σ H → D'.nx σ H) ∧ (∀ v H, D.rt v H → D'.rt v H) ∧ (∀ σ H, D.bk σ H → D'.bk σ H))) : AftS C B G o D' := by
  rcases f with rfl | ⟨f1, f2, f3⟩
  · exact h
  cases o with
  | ok fl S =>
    cases fl with
    | nx => exact fun G' H σ l R => f1 _ _ (h G' H σ l R)
    | bk => exact fun G' H σ l R => f3 _ _ (h G' H σ l R)
    | rt r => exact fun G' H σ l R v q => f2 _ _ (h G' H σ l R v q)
  | ex x S => exact h
  | no => exact h
theorem RelRv.ret {r : Rv} (h : RelRv B G H S.env σ r v) : RelRet B G H r v := by
  cases r with
  | val d => exact h
  | own m =>
    obtain ⟨a, o, e, e2, r, f1, f2, f3, _⟩ := h
    exact ⟨a, o, e, e2, r, f1, f2, f3⟩
theorem RelRv.asRef {m : MO} (h : RelRv B G H S.env σ (.own m) v) : ∃ a, v = .ref a := by
  obtain ⟨a, o, e, _⟩ := h
  exact ⟨a, e⟩

theorem sss_nil : PSs X [] (tSs C Φ []) := ⟨fun pins s σ H D I ⟨B, G, S, R, q⟩ => by
  simp only [evSs] at q
  exact pss_nil.run pins s σ H D I (q G H σ (.refl G) R)⟩
theorem sss_cons {c : St} {cs : List St} {st : Stmt} {sts : List Stmt} (h1 : PS X st (tS C Φ c)) (h2 : PSs X sts (tSs C Φ cs)) : PSs X (st :: sts) (tSs C Φ (c :: cs)) :=
  ⟨fun pins s σ H D I ⟨B, G, S, R, q⟩ => by
  simp only [evSs] at q
  refine (pss_cons h1 h2).run pins s σ H D I ⟨B, G, S, R, ?_⟩
  refine (AftS.seq q (fun S _ => ⟨rfl, fun _ => rfl⟩) (fun _ => rfl) (fun _ _ => rfl)).mono (.inr ⟨fun σ' H' ⟨G', S', R', q'⟩ => ⟨B, G', S', R', q'⟩, fun _ _ z => z, fun _ _ z => z⟩)⟩
theorem sss_one {c : St} {st : Stmt} (h1 : PS X st (tS C Φ c)) : PSs X [st] (tSs C Φ [c]) := sss_cons h1 sss_nil
theorem ss_pass : PS X (.Pass p) (tS C Φ .pass) := impS ps_pass fun D σ H ⟨B, G, S, R, q⟩ => by
  simp only [evS] at q
  exact q G H σ (.refl G) R
theorem ss_doc {x : Str} {j : Nat} {p2 : Pos} : PS X (.Expr (.Constant (.str x) j p2) p) (tS C Φ .pass) := impS ps_doc fun D σ H ⟨B, G, S, R, q⟩ => by
  simp only [evS] at q
  exact q G H σ (.refl G) R
theorem ss_brk : PS X (.Break p) (tS C Φ .brk) := impS ps_break fun D σ H ⟨B, G, S, R, q⟩ => by
  simp only [evS] at q
  exact q G H σ (.refl G) R
theorem ss_retN : PS X (.Return none p) (tS C Φ .retN) := impS ps_retN fun D σ H ⟨B, G, S, R, q⟩ => by
  simp only [evS] at q
  exact q G H σ (.refl G) R _ (RelD.non)
theorem ss_ret {c : E} {e : Expr} (h : PE X e (tH C Φ c)) : PS X (.Return (some e) p) (tS C Φ (.ret c)) := impS (ps_ret h) fun D σ H ⟨B, G, S, R, q⟩ => by
  have other : ∀ {c : E}, AftS C B G ((evX Φ c S).bind fun r S => .ok (.rt r) S) D → tX C Φ c σ H D.rt := fun q => by
    refine tX.mono (val_go R (AftS.bind q)) fun v H1 ⟨r, G1, S1, l1, R1, rv, k1⟩ => ?_
    exact k1 G1 H1 σ (.refl G1) R1 v rv.ret
  cases c with
  | var i =>
    simp only [evS, isVar] at q
    split at q
    · rename_i d e1
      obtain ⟨v, e2, r⟩ := R.s.val i d e1
      exact ⟨v, e2, q G H σ (.refl G) R v r⟩
    · rename_i m e1
      obtain ⟨a, o, e2, e3, r⟩ := R.s.own i m e1
      exact ⟨_, e2, q G H σ (.refl G) R _ ⟨a, o, rfl, e3, r.1, r.2.1, r.2.2.1, r.2.2.2⟩⟩
    · exact q.elim
  | _ =>
    simp only [evS, isVar] at q
    exact other q
theorem ss_expr {c : E} {e : Expr} (h : PE X e (tX C Φ c)) (hc : notComp e = true) : PS X (.Expr e p) (tS C Φ (.expr c)) := impS (ps_expr h (notComp_ok hc _ _ _)) fun D σ H ⟨B, G, S, R, q⟩ => by
  simp only [evS] at q
  refine tX.mono (val_go R (AftS.bind q)) fun v H1 ⟨r, G1, S1, l1, R1, rv, k1⟩ => ?_
  exact k1 G1 H1 σ (.refl G1) R1
theorem ss_ite {t : E} {a b : List St} {x : Expr} {xs ys : List Stmt} (ht : PT X x (tT C Φ t)) (ha : PSs X xs (tSs C Φ a)) (hb : PSs X ys (tSs C Φ b)) : PS X (.If x xs ys p) (tS C Φ (.ite t a b)) :=
  impS (ps_if ht ha hb) fun D σ H ⟨B, G, S, R, q⟩ => by
  simp only [evS] at q
  refine ⟨B, G, S, R, (AftS.bind q).mono fun r G1 S1 H1 l1 R1 k1 => ?_⟩
  split at k1
  · simp only [if_true]; exact ⟨B, G1, S1, R1, k1⟩
  · simp only [Bool.false_eq_true, if_false]; exact ⟨B, G1, S1, R1, k1⟩
  · exact k1.elim
theorem asg_go {i : Nat} {c : E} (q : tS C Φ (.asg (.var i) c) D σ H) : tAsg (tX C Φ c) (gName i) D σ H := by
  obtain ⟨B, G, S, R, q⟩ := q
  simp only [evS] at q
  refine tX.mono (val_go R (AftS.bind q)) fun v H1 ⟨r, G1, S1, l1, R1, rv, k1⟩ => ?_
  cases r with
  | val d => exact k1 G1 H1 _ (.refl G1) (R1.setV rv)
  | own m => exact k1 G1 H1 _ (.refl G1) (R1.setO rv)
theorem asgR_go {i : Nat} {c : E} (q : tS C Φ (.asgR i c) D σ H) : tAsg (tX C Φ c) (gName i) D σ H := by
  obtain ⟨B, G, S, R, q⟩ := q
  simp only [evS] at q
  refine tX.mono (val_go R (AftS.bind q)) fun v H1 ⟨r, G1, S1, l1, R1, rv, k1⟩ => ?_
  cases r with
  | val d => exact k1.elim
  | own m =>
    obtain ⟨a, rfl⟩ := rv.asRef
    obtain ⟨R2, r2⟩ := R1.push rv
    exact k1 _ H1 _ (G1.push_le a) (R2.setV r2)
theorem asgT_go {is : List Nat} {c : E} (q : tS C Φ (.asg (.tup is) c) D σ H) : tAsg (tX C Φ c) (gT K is) D σ H := by
  obtain ⟨B, G, S, R, q⟩ := q
  simp only [evS] at q
  refine tX.mono (frz_go R (AftS.bind q)) fun v H1 ⟨r, G1, S1, l1, R1, rv, k1⟩ => ?_
  cases he : setTg S1.env is r.frz with
  | none => simp only [asgTg, he] at k1; exact k1.elim
  | some env =>
    simp only [asgTg, he] at k1
    exact gT_go R1 rv he fun σ2 R2 _ _ => k1 G1 H1 σ2 (.refl G1) R2
/-- o[i] = v, o a list or a dict -/
def rSetR : TSet := fun o i v H Q => rSetL o i v H Q ∨ rSetD o i v H Q
theorem set_rel (hu : X.A.units + 1 < cLine) : PSet X rSetR := by
  intro pins s σ H o i v ov iv u Q I ro ri rv h
  rcases h with h | h
  · exact set_list pins s σ H o i v ov iv u Q I ro ri rv h
  · exact set_dict hu pins s σ H o i v ov iv u Q I ro ri rv h
theorem setM_rel (R : RR C.cl B G S σ H) (r : RelHd G σ h v) {m m' : MO} {j : Tk.D} {u w : V} (e : getM S h = some m) (rj : RelD G j u) (rd : RelD G d w) (e2 : setM m j d = some m') {Q : Hp → Prop}
    (k : ∀ H', RR C.cl B G (putM S m' h) σ H' → Q H') : rSetR v u w H Q := by
  obtain ⟨a, o, rfl, e3, r3, kk⟩ := getM_rel R r e
  have hs : LIM < sizeLine := by decide
  unfold setM at e2
  split at e2
  · rename_i xs i
    cases rj
    cases o <;> simp only [RelMO] at r3
    rename_i vs
    simp only [Option.map_eq_some_iff] at e2
    obtain ⟨n, e4, rfl⟩ := e2
    refine .inl ⟨a, vs, i, n, rfl, rfl, e3, by rw [← r3.1.length]; exact e4, k _ (kk _ _ ⟨r3.1.set rd n, by rw [List.length_set]; exact r3.2⟩)⟩
  · rename_i ks ds i
    cases rj
    cases o <;> simp only [RelMO] at r3
    rename_i kvs
    split at e2
    · rename_i hl
      cases e2
      obtain ⟨g1, g2⟩ := putK_rel (k := i) r3.1 r3.2.1 rd
      have hkl : kvs.length = ks.length := by have := congrArg List.length r3.1; simpa using this
      refine .inr ⟨a, _, rfl, DPut.k (k := .inl i) e3 (by omega), k _ (kk _ _ ⟨g1, g2, ?_⟩)⟩
      have h1 := g2.length
      have h2 := congrArg List.length g1
      simp only [List.length_map] at h1 h2
      rw [h1, h2]
      unfold putKs
      split
      · omega
      · rw [List.length_append, List.length_singleton]; omega
    · cases e2
  · cases e2
theorem sw_sub {e : Expr} {o i : Expr} {p : Pos} (l : Nat) (env : Env) : swapsWithSole [.Subscript o i p] e l env = pure false := by
  cases e <;> rfl
theorem sw_tup {e : Expr} {es : List Expr} {k : Nat} {p : Pos} (l : Nat) (env : Env) : swapsWithSole [.Tuple es k p] e l env = pure false := by
  cases e <;> rfl
theorem asg_sub {o i : Expr} {pos : Pos} (h : notSl i = true) (v : Value) : assign (.Subscript o i pos) X.env v = (do
      let ov ← holding [v] (eval o X.env)
      let iv ← holding [v, ov] (eval i X.env)
      standAt pos
      holding [v, ov, iv] (setItem ov iv v)
      release [v, ov, iv] []) := by
  cases i <;> first | (exact Bool.noConfusion (show false = true from h)) | rfl
theorem ss_setI {a i c : E} {x y z : Expr} {p2 : Pos} (hu : X.A.units + 1 < cLine) (ha : PE X x (tH C Φ a)) (hi : PE X y (tX C Φ i)) (hc : PE X z (tX C Φ c)) (hs : notSl y = true) : PS X (.Assign [.Subscript x y p2] z p) (tS C Φ (.setI a i c)) :=
  impS (ps_asg hc (pg_sub ha hi (set_rel hu) (fun v => asg_sub hs v)) (sw_sub _ _) (by cases z <;> rfl)) fun D σ H ⟨B, G, S, R, q⟩ => by
  simp only [evS] at q
  refine tX.mono (frz_go R (AftS.bind q)) fun v H1 ⟨r, G1, S1, l1, R1, rv, k1⟩ => ?_
  refine tH.mono (hd_go R1 (AftS.bind k1)) fun u H2 ⟨h2, G2, S2, l2, R2, r2, k2⟩ => ?_
  refine tX.mono (frz_go R2 (AftS.bind k2)) fun w H3 ⟨j, G3, S3, l3, R3, r3, k3⟩ => ?_
  cases e : getM S3 h2 with
  | none => simp only [e] at k3; exact k3.elim
  | some m =>
    cases e2 : setM m j.frz r.frz with
    | none => simp only [e, Option.bind_some, e2] at k3; exact k3.elim
    | some m' =>
      simp only [e, Option.bind_some, e2] at k3
      exact setM_rel R3 (r2.mono l3) e r3 (rv.mono (l2.trans l3)) e2 fun H' R' => k3 G3 H' σ (.refl G3) R'
theorem ss_aug {i : Nat} {c : E} {x : Str} {e : Expr} {p2 : Pos} (hN : X.N.Nodup) (hf : ∀ y, X.fn y = true) (hi : X.N[i]? = some x) (hx : L2.Loc X.env.scope x) (he : PE X e (tX C Φ c)) : PS X (.AugAssign (.Name x p2) .Add e p) (tS C Φ (.aug i c)) :=
  impS (ps_aug hN hi hx he ip_add (.inl (hf x))) fun D σ H ⟨B, G, S, R, q⟩ => by
  simp only [evS] at q
  split at q
  · rename_i n e1
    obtain ⟨v, e2, r⟩ := R.s.val i _ e1
    cases r
    refine ⟨_, e2, tX.mono (frz_go R (AftS.bind q)) fun v H1 ⟨r, G1, S1, l1, R1, rv, k1⟩ => ?_⟩
    cases hr : r.frz with
    | int k =>
      simp only [hr] at k1
      rw [hr] at rv
      cases rv
      exact ⟨n, k, rfl, rfl, k1 G1 H1 _ (.refl G1) (R1.setV (.int _))⟩
    | _ => simp only [hr] at k1; exact k1.elim
  · exact q.elim
theorem ss_app {a c : E} {x y : Expr} {p2 p3 : Pos} (ha : PE X x (tH C Φ a)) (hc : PE X y (tX C Φ c)) (hn : notCall x = true) (hs : notStar y = true) (hl : (p2.endLine == p3.line) = true) :
    PS X (.Expr (.Call (.Attribute x "append" p2) [y] [] p3) p) (tS C Φ (.app a c)) := by
  have hfew : ((backTo p3 (starEach [y] X.env)).all (fun x => !x.1) && (backToKw p3 (keywordEach [] X.env)).all (fun x => x.1.isSome)
      && decide (([y] : List Expr).length + ([] : List Keyword).length + (if ([] : List Keyword).isEmpty then 0 else 1) < 30)) = true := by
    rw [notStar_ok hs]; rfl
  refine impS (ps_expr (pe_bm PySem.F.plainAttrs_list PySem.F.slot_list_append PySem.F.type_list_append mt_append ha (pa_cons hc pa_nil (notStar_ok hs _ _)) (notCall_base hn _ _ _) hfew hl (notStar_ok hs _ _) rfl) rfl) fun D σ H ⟨B, G, S, R, q⟩ => ?_
  simp only [evS] at q
  refine tH.mono (hd_go R (AftS.bind q)) fun u H2 ⟨h2, G2, S2, l2, R2, r2, k2⟩ => ?_
  split at k2
  · rename_i xs e
    obtain ⟨b, o, rfl, e3, r3, _⟩ := getM_rel R2 r2 e
    cases o <;> simp only [RelMO] at r3
    refine ⟨.inl ⟨rfl, _, SqL.of e3⟩, ?_⟩
    refine tX.mono (frz_go R2 (AftS.bind k2)) fun w H3 ⟨j, G3, S3, l3, R3, r3, k3⟩ => ?_
    cases e : getM S3 h2 with
    | none => simp only [e] at k3; exact k3.elim
    | some m =>
      cases e2 : appM m j.frz with
      | none => simp only [e, Option.bind_some, e2] at k3; exact k3.elim
      | some m' =>
        simp only [e, Option.bind_some, e2] at k3
        obtain ⟨b', o, z, e4, r4, kk⟩ := getM_rel R3 (r2.mono l3) e
        cases z
        obtain ⟨ys, rfl, hl, r5⟩ := appM_rel r4 r3 e2
        exact ⟨_, ys, w, rfl, rfl, e4, hl, k3 G3 _ σ (.refl G3) (kk _ _ r5)⟩
  · exact k2.elim
end
end Tk
namespace Tk
open PySem L2 PySem.W
theorem Out.bind_assoc {α β γ : Type} {o : Out α} {f : α → Sg → Out β} {g : β → Sg → Out γ} : (o.bind f).bind g = o.bind fun a s => (f a s).bind g := by
  cases o <;> rfl
def gTg (K : PySem.W.Frag) : Tg → TG
  | .var i => gName i
  | .tup is => gT K is
def tIX (K : PySem.W.Frag) (C : Ct) (Φ : Fns) (rg : Bool) (it : E) : TI := match rg with
  | true => iRng1 (tCons (tX C Φ it) tNil)
  | false => iSeq K (tX C Φ it)
section
variable {X : Cx} {C : Ct} {Φ : Fns} {B : Base} {G G1 : Gh} {S : Sg} {σ : L2.St} {H : Hp} {K : PySem.W.Frag} {h : Hd} {d : Tk.D} {v : V} {D D' : Ends} {o : Out Fl} {p : Pos}
theorem IX_go {rg : Bool} {it : E} {K1 : Rv → Gh → Sg → Hp → Prop} (R : RR C.cl B G S σ H) (q : Aft C B G σ (evX Φ it S) K1) (hk : ∀ r G' S' H', K1 r G' S' H' → ∃ d items, srcOf rg (.now r.frz) S' = some (d, items)) {R0 : It → Hp → Prop}
    (k : ∀ r G' S' H' v d items J, G.Le G' → RR C.cl B G' S' σ H' → K1 r G' S' H' → srcOf rg (.now r.frz) S' = some (d, items) → (∀ σ', Src J rg G' σ' (.now r.frz) d items v) → (rg = true ∨ rdH S' (.now r.frz) = some d) → R0 J H') : tIX K C Φ rg it σ H R0 := by
  cases rg with
  | true =>
    refine tX.mono (frz_go R q) fun v H1 ⟨r, G1, S1, l1, R1, r1, k1⟩ => ?_
    obtain ⟨d, items, e⟩ := hk _ _ _ _ k1
    have e' := e
    unfold srcOf at e'
    cases q1 : rdH S1 (.now r.frz) with
    | none => rw [q1] at e'; cases e'
    | some d1 =>
      rw [q1] at e'
      cases d1 <;> first | cases e' | skip
      rename_i n
      simp only [] at e'
      split at e'
      · rename_i hb
        cases e'
        cases (rdH_rel (h := .now r.frz) R1 r1 q1).int
        have hL : (LIM : Int) = 1048576 := rfl
        exact ⟨n, rfl, by omega, by omega, k r G1 S1 H1 (.int n) _ _ _ l1 R1 k1 e (fun σ' => src_rng) (.inl rfl)⟩
      · cases e'
  | false =>
    refine tX.mono (frz_go R q) fun v H1 ⟨r, G1, S1, l1, R1, r1, k1⟩ => ?_
    obtain ⟨d, items, e⟩ := hk _ _ _ _ k1
    have e' := e
    unfold srcOf at e'
    cases q1 : rdH S1 (.now r.frz) with
    | none => rw [q1] at e'; cases e'
    | some d1 =>
      rw [q1] at e'
      simp only [Option.map_eq_some_iff] at e'
      obtain ⟨ds, e1, e2⟩ := e'
      cases e2
      unfold itemsD at e1
      have rn := rdH_rel (h := .now r.frz) R1 r1 q1
      split at e1
      · cases e1
        obtain ⟨a, vs, rfl, f1, h2, r2, hl⟩ := rn.tup R1.h
        exact ⟨a, rfl, .inr ⟨⟨vs, SqT.of h2⟩, k r G1 S1 H1 (.ref a) _ _ _ l1 R1 k1 e (fun σ' => src_tup r1) (.inr q1)⟩⟩
      · cases e1
        obtain ⟨a, vs, rfl, h2, r2, hl⟩ := rn.lst R1.h
        exact ⟨a, rfl, .inl ⟨⟨vs, SqL.of h2⟩, k r G1 S1 H1 (.ref a) _ _ _ l1 R1 k1 e (fun σ' => src_lst r1) (.inr q1)⟩⟩
      · cases e1
theorem gTg_go {t : Tg} {S2 : Sg} {Q : L2.St → Hp → Prop} (R : RR C.cl B G S σ H) (r : RelD G d v) (e : forTg S t d = some S2) (k : ∀ σ2, RR C.cl B G S2 σ2 H → Q σ2 H) : gTg K t v σ H Q := by
  unfold forTg at e
  simp only [Option.map_eq_some_iff] at e
  obtain ⟨env, e1, rfl⟩ := e
  cases t with
  | var i =>
    simp only [asgTg] at e1
    cases e1
    exact k _ (R.setV r)
  | tup is => exact gT_go R r e1 fun σ2 R2 _ _ => k σ2 R2
/-- one turn of a for -/
theorem AftS.turn {o : Out Fl} {f : Sg → Out Fl} (h : AftS C B G (o.bind fun fl S' => match fl with
    | .nx => f S'
    | .bk => .ok .nx S'
    | .rt r => .ok (.rt r) S') D) : AftS C B G o { D with nx := fun σ H => ∃ G' S', G.Le G' ∧ RR C.cl B G' S' σ H ∧ AftS C B G' (f S') D, ct := fun σ H => ∃ G' S', G.Le G' ∧ RR C.cl B G' S' σ H ∧ AftS C B G' (f S') D, bk := D.nx } := by
  cases o with
  | ok fl S =>
    cases fl with
    | nx => exact fun G' H σ l R => ⟨G', S, l, R, AftS.up h l⟩
    | bk => exact h
    | rt r => exact h
  | ex x S => exact h
  | no => exact h
theorem ss_for {t : Tg} {rg : Bool} {it : E} {body : List St} {tg x : Expr} {xs : List Stmt} (hp : PassesOwn (model X.prog X.w) X.A X.env X.xe) (hc : X.calm = true) (hi : PI X tg x (tIX X.K C Φ rg it)) (hg : PG X tg (gTg X.K t)) (hb : PSs X xs (tSs C Φ body)) (hs : ∀ u, foldedSetIterable x X.env u = pure u) :
    PS X (.For tg x xs [] p) (tS C Φ (.for_ t rg it body)) := impS (ps_for hp hc hi hg hb hs) fun D σ H ⟨B, G, S, R, q⟩ => by
  simp only [evS] at q
  refine IX_go R (AftS.bind q) (fun r G1 S1 H1 k1 => ?_) fun r G1 S1 H1 v d items J l1 R1 k1 e1 src hrd => ?_
  · cases e : srcOf rg (.now r.frz) S1 with
    | none => simp only [e] at k1; exact k1.elim
    | some p => exact ⟨p.1, p.2, rfl⟩
  simp only [e1] at k1
  refine ⟨fun i m σ' H' => m + i = items.length ∧ ∃ G' S', G1.Le G' ∧ RR C.cl B G' S' σ' H' ∧ AftS C B G' (forLoop (fun x S => match forTg S t x with
          | some S => evSs Φ body S
          | none => .no) (stillSrc rg (.now r.frz) d) (items.drop i) S') D ∧ (rg = true ∨ rdH S' (.now r.frz) = some d), ⟨items.length, rfl, G1, S1, .refl G1, R1, by rw [List.drop_zero]; exact k1, hrd⟩, ?_⟩
  rintro i m σ' H' ⟨hm, G', S', l', R', hL, hr⟩
  by_cases hi : i < items.length
  · refine .inr ⟨(src σ').go _ _ _ _ _ i l' R' hr hi, fun σ2 H2 => m - 1 + (i + 1) = items.length ∧ ∃ G' S', G1.Le G' ∧ RR C.cl B G' S' σ2 H2 ∧ AftS C B G' (forLoop (fun x S => match forTg S t x with
          | some S => evSs Φ body S
          | none => .no) (stillSrc rg (.now r.frz) d) (items.drop (i + 1)) S') D ∧ (rg = true ∨ rdH S' (.now r.frz) = some d), fun σ2 H2 w => ⟨m - 1, by omega, w⟩, fun x H2 hy => ?_⟩
    obtain ⟨hH2, hx⟩ := (src σ').yld _ _ _ _ _ i x H2 l' R' hr hy
    subst hH2
    rw [List.drop_eq_getElem_cons hi, forLoop] at hL
    have rx := hx _ (List.getElem?_eq_getElem hi)
    cases hf : forTg S' t items[i] with
    | none => simp only [hf] at hL; exact hL.elim
    | some S2 =>
      simp only [hf] at hL
      refine gTg_go R' rx hf fun σ2 R2 => ?_
      refine ⟨B, G', S2, R2, (AftS.turn hL).mono (.inr ⟨fun σ3 H3 ⟨G3, S3, l3, R3, q3⟩ => ?_, fun _ _ z => z, fun _ _ z => z⟩)⟩
      split at q3
      · rename_i hst
        refine ⟨by omega, G3, S3, l'.trans l3, R3, q3, ?_⟩
        unfold stillSrc at hst
        rw [Bool.or_eq_true] at hst
        exact hst.imp id still_eq
      · exact q3.elim
  · have hi' : i = items.length := by omega
    subst hi'
    rw [List.drop_length, forLoop] at hL
    exact .inl ⟨(src σ').stop _ _ _ _ _ l' R' hr, hL G' H' σ' (.refl G') R'⟩
theorem ss_whl {t : E} {body : List St} {x : Expr} {xs : List Stmt} (hp : PassesOwn (model X.prog X.w) X.A X.env X.xe) (ht : PT X x (tT C Φ t)) (hb : PSs X xs (tSs C Φ body)) : PS X (.While x xs [] p) (tS C Φ (.whl t body)) :=
  impS (ps_while hp ht hb) fun D σ H ⟨B, G, S, R, q⟩ => by
  simp only [evS] at q
  unfold whl at q
  split at q
  case isFalse => exact q.elim
  rename_i hex
  refine ⟨fun m σ' H' => ∃ G' S', RR C.cl B G' S' σ' H' ∧ AftS C B G' (whlN (whlStep (fun S => evX Φ t S) (fun S => evSs Φ body S)) m S') D, ⟨Classical.choose hex, G, S, R, q⟩, ?_⟩
  rintro m σ' H' ⟨G', S', R', q'⟩
  cases m with
  | zero => exact q'.elim
  | succ m =>
    rw [whlN] at q'
    have q2 : AftS C B G' ((evX Φ t S').bind fun r S => (match r with
      | .val (.bl true) => (evSs Φ body S).bind fun fl S => match fl with
        | .nx => Out.ok (none : Option Fl) S
        | .bk => .ok (some Fl.nx) S
        | .rt r => .ok (some (Fl.rt r)) S
      | .val (.bl false) => .ok (some Fl.nx) S
      | _ => .no).bind fun o S' => match o with
        | none => whlN (whlStep (fun S => evX Φ t S) (fun S => evSs Φ body S)) m S'
        | some fl => .ok fl S') D := by
      have e := Out.bind_assoc (o := evX Φ t S') (f := fun r S => (match r with
      | .val (.bl true) => (evSs Φ body S).bind fun fl S => match fl with
        | .nx => Out.ok (none : Option Fl) S
        | .bk => .ok (some Fl.nx) S
        | .rt r => .ok (some (Fl.rt r)) S
      | .val (.bl false) => .ok (some Fl.nx) S
      | _ => .no)) (g := fun o S' => match o with
        | none => whlN (whlStep (fun S => evX Φ t S) (fun S => evSs Φ body S)) m S'
        | some fl => Out.ok fl S')
      rw [← e]
      exact q'
    refine ⟨B, G', S', R', (AftS.bind q2).mono fun r G1 S1 H1 l1 R1 k1 => ?_⟩
    split at k1
    · simp only [if_true]
      refine ⟨fun σ3 H3 => ∃ G3 S3, RR C.cl B G3 S3 σ3 H3 ∧ AftS C B G3 (whlN (whlStep (fun S => evX Φ t S) (fun S => evSs Φ body S)) m S3) D, fun σ3 H3 w => ⟨m, Nat.lt_succ_self m, w⟩, B, G1, S1, R1, ?_⟩
      revert k1
      cases evSs Φ body S1 with
      | ok fl S2 =>
        cases fl with
        | nx => exact fun k1 G' H σ l R => ⟨G', S2, R, AftS.up k1 l⟩
        | bk => exact id
        | rt r => exact id
      | ex x S2 => exact id
      | no => exact id
    · simp only [Bool.false_eq_true, if_false]
      exact k1 G1 H1 σ' (.refl G1) R1
    · exact k1.elim
end
end Tk
namespace Tk
open PySem L2 PySem.W
def okS (N : List Str) (sc : Scope) (i : Nat) (x : Str) : Bool := decide (N[i]? = some x) && isLoc sc x
def chkTg (N : List Str) (sc : Scope) (t : Tg) (e : Expr) : Bool := match t, e with
  | .var i, .Name x _ => okS N sc i x
  | .tup is, .Tuple es _ _ => decide (2 ≤ is.length) && chkNs (okS N sc) is es
  | _, _ => false
def notTup : Expr → Bool
  | .Tuple .. => false
  | _ => true
mutual
def chkS (fs : String → Bool) : Nat → List Str → Scope → St → Stmt → Bool
  | 0, _, _, _, _ => false
  | n + 1, N, sc, c, s => match c, s with
    | .asg (.var i) c, .Assign [.Name x _] e _ => okS N sc i x && chkE fs n N sc c e
    | .asgR i c, .Assign [.Name x _] e _ => okS N sc i x && chkE fs n N sc c e
    | .asg (.tup is) c, .Assign [.Tuple es _ _] e _ => decide (2 ≤ is.length) && (chkNs (okS N sc) is es && (chkE fs n N sc c e && notTup e))
    | .setI a i c, .Assign [.Subscript x y _] z _ => chkE fs n N sc a x && (chkE fs n N sc i y && (chkE fs n N sc c z && notSl y))
    | .aug i c, .AugAssign (.Name x _) .Add e _ => okS N sc i x && chkE fs n N sc c e
    | .app a c, .Expr (.Call (.Attribute x m p2) [y] [] p3) _ => decide (m = "append") && (chkE fs n N sc a x && (chkE fs n N sc c y && (notCall x && (notStar y && (p2.endLine == p3.line)))))
    | .pass, .Pass _ => true
    | .pass, .Expr (.Constant (.str _) _ _) _ => true
    | .expr c, .Expr e _ => chkE fs n N sc c e && notComp e
    | .ite t a b, .If x xs ys _ => chkT fs n N sc t x && (chkSs fs n N sc a xs && chkSs fs n N sc b ys)
    | .for_ t rg it body, .For tg x xs [] _ => chkI fs n N sc rg it x && (chkTg N sc t tg && chkSs fs n N sc body xs)
    | .whl t body, .While x xs [] _ => chkT fs n N sc t x && chkSs fs n N sc body xs
    | .ret c, .Return (some e) _ => chkE fs n N sc c e
    | .retN, .Return none _ => true
    | .brk, .Break _ => true
    | _, _ => false
def chkSs (fs : String → Bool) : Nat → List Str → Scope → List St → List Stmt → Bool
  | 0, _, _, _, _ => false
  | n + 1, N, sc, c, s => match c, s with
    | [], [] => true
    | c :: cs, s :: ss => chkS fs n N sc c s && chkSs fs n N sc cs ss
    | _, _ => false
end
structure GS (X : Cx) (C : Ct) (T : String → Option Fd) (k : Nat) : Prop where
  g : GX X C T k
  fn : ∀ y, X.fn y = true
section
variable {T : String → Option Fd} {k n : Nat} {X : Cx} {C : Ct}
theorem okS_pg (g : GS X C T k) {i : Nat} {x : Str} {p : Pos} (h : okS X.N X.env.scope i x = true) : PG X (.Name x p) (gName i) := by
  simp only [okS, Bool.and_eq_true, decide_eq_true_eq] at h
  exact pg_name g.g.nd h.1 (isLoc_ok h.2) (.inl (g.fn x))
theorem chkTg_pg (g : GS X C T k) {t : Tg} {e : Expr} (h : chkTg X.N X.env.scope t e = true) : PG X e (gTg X.K t) := by
  unfold chkTg at h
  split at h
  · exact okS_pg g h
  · rw [Bool.and_eq_true, decide_eq_true_eq] at h
    exact pg_T g.g.calm (fun i x p q => okS_pg g q) h.1 h.2
  · cases h
theorem chkI_X (g : GS X C T k) {rg : Bool} {c : E} {tg e : Expr} (h : chkI (fsOf T) n X.N X.env.scope rg c e = true) : PI X tg e (tIX X.K C (run T k) rg c) := by
  cases n with
  | zero => simp [chkI] at h
  | succ n =>
    cases rg with
    | false =>
      rw [chkI, Bool.and_eq_true] at h
      exact pi_seq ((snd_all T k n).e g.g h.2)
    | true =>
      unfold chkI at h
      split at h
      · simp only [Bool.and_eq_true, decide_eq_true_eq] at h
        obtain ⟨rfl, h1, h2, h3⟩ := h
        exact pi_range1 (isGl_ok h1) (g.g.blt _ (by decide)) (pa_cons ((snd_all T k n).e g.g h2) pa_nil (notStar_ok h3 _ _)) (notStar_ok h3 _ _)
      · cases h
      · rename_i z; cases z
theorem notTup_sw {e : Expr} (h : notTup e = true) (es : List Expr) (j : Nat) (p : Pos) (env : Env) : swappedStores [.Tuple es j p] e env = pure none := by
  cases e <;> first | (exact Bool.noConfusion (show false = true from h)) | rfl
/-- name = e: any e -/
theorem ps_name (g : GS X C T k) {i : Nat} {x : Str} {c : E} {e : Expr} {p p2 : Pos} (h1 : okS X.N X.env.scope i x = true) (h : chkE (fsOf T) n X.N X.env.scope c e = true) : PS X (.Assign [.Name x p2] e p) (tAsg (tX C (run T k) c) (gName i)) := by
  have h0 := h1
  simp only [okS, Bool.and_eq_true, decide_eq_true_eq] at h1
  have plain : notComp e = true → PS X (.Assign [.Name x p2] e p) (tAsg (tX C (run T k) c) (gName i)) := fun hc =>
    ps_set g.g.nd h1.1 (isLoc_ok h1.2) ((snd_all T k n).e g.g h) (notComp_ok hc _ _ _) (.inl (g.fn x))
  induction n generalizing c with
  | zero => simp [chkE] at h
  | succ n ih =>
  cases e <;> first | exact plain rfl | skip
  · rename_i elt gs scope pos
    have hsw : swapsWith (.ListComp elt gs scope pos) (some (.Name x p2)) p.line X.env = pure (X.env.blockKind == .function && X.env.kindOf x == some .local && p2.line == pos.line && !(scope.names.any fun (n, k) => n == x && (k == .local || k == .cell))) := rfl
    generalize hb : (X.env.blockKind == .function && X.env.kindOf x == some .local && p2.line == pos.line && !(scope.names.any fun (n, k) => n == x && (k == .local || k == .cell))) = b at hsw
    cases b with
    | false => exact ps_set g.g.nd h1.1 (isLoc_ok h1.2) ((snd_all T k (n + 1)).e g.g h) hsw (.inl (g.fn x))
    | true =>
      have hyl : X.env.scope.names.lookup x = some .local := by
        simp only [Bool.and_eq_true] at hb
        have := hb.1.1.2
        simpa [Env.kindOf] using this
      unfold chkE at h
      split at h
      all_goals first | (exact Bool.noConfusion h) | (rename_i he; cases he; done) | (exact impS (ih h fun hc => Bool.noConfusion (show false = true from hc)) fun _ _ _ => val_imp) | (exact impS (ih h fun hc => Bool.noConfusion (show false = true from hc)) fun _ _ _ => mk_imp) | (rename_i he; cases he)
      simp only [Bool.and_eq_true] at h
      obtain ⟨h2, h3, h4, h5, h6⟩ := h
      rename_i vs elt tg rg it cond t i2 ifs
      have hov : (vs.map fun v => (X.N.getD v "", v)).map (·.2) = vs := by rw [List.map_map]; exact List.map_id'' (fun _ => rfl) vs
      have I := snd_all T k n
      refine impS (ps_setLc (tt := tTs (C0 C) (run T k) cond) (te := tX (C0 C) (run T k) elt) g.g.calm g.g.nd h1.1 hyl hsw (I.i g.g h4) (blkOk_by h2) (fun s H Cc cl fp => chkTgs_pg g.g.calm g.g.nd s H scope Cc cl fp h3) (fun s H Cc cl fp => ?_) (fun s H Cc cl fp => I.e (g.g.blk s H scope _ fp) h5) (chkI_set h4 X.env)) fun D σ H q => ?_
      · cases cond with
        | none => cases ifs with
          | nil => exact pts_nil
          | cons a b => cases h6
        | some c => cases ifs with
          | nil => cases h6
          | cons a b => cases b with
            | nil => exact pts_one (I.t (g.g.blk s H scope _ fp) h6)
            | cons _ _ => cases h6
      · rw [hov]
        exact lc_go (chkTgs_in h3) q
  · unfold chkE at h
    split at h
    all_goals first | (exact Bool.noConfusion h) | (rename_i he; cases he; done) | (exact impS (ih h fun hc => Bool.noConfusion (show false = true from hc)) fun _ _ _ => val_imp) | (exact impS (ih h fun hc => Bool.noConfusion (show false = true from hc)) fun _ _ _ => mk_imp)
  · unfold chkE at h
    split at h
    all_goals first | (exact Bool.noConfusion h) | (rename_i he; cases he; done) | (exact impS (ih h fun hc => Bool.noConfusion (show false = true from hc)) fun _ _ _ => val_imp) | (exact impS (ih h fun hc => Bool.noConfusion (show false = true from hc)) fun _ _ _ => mk_imp)
structure SndS (T : String → Option Fd) (k n : Nat) : Prop where
  s : ∀ {X : Cx} {C : Ct} {c : St} {s : Stmt}, GS X C T k → chkS (fsOf T) n X.N X.env.scope c s = true → PS X s (tS C (run T k) c)
  b : ∀ {X : Cx} {C : Ct} {c : List St} {s : List Stmt}, GS X C T k → chkSs (fsOf T) n X.N X.env.scope c s = true → PSs X s (tSs C (run T k) c)
theorem sndS_all (T : String → Option Fd) (k : Nat) : ∀ n, SndS T k n
  | 0 => ⟨fun _ h => by simp [chkS] at h, fun _ h => by simp [chkSs] at h⟩
  | n + 1 => by
    have J := sndS_all T k n
    have I := snd_all T k n
    refine ⟨fun {X C c s} g h => ?_, fun {X C c s} g h => ?_⟩
    · have hu := roomU g.g.room
      unfold chkS at h
      split at h
      · rw [Bool.and_eq_true] at h
        exact impS (ps_name g h.1 h.2) fun _ _ _ => asg_go
      · rw [Bool.and_eq_true] at h
        exact impS (ps_name g h.1 h.2) fun _ _ _ => asgR_go
      · simp only [Bool.and_eq_true, decide_eq_true_eq] at h
        obtain ⟨h1, h2, h3, h4⟩ := h
        exact impS (ps_asg (I.e g.g h3) (pg_T g.g.calm (fun i x p q => okS_pg g q) h1 h2) (sw_tup _ _) (notTup_sw h4 _ _ _ _)) fun _ _ _ => asgT_go
      · simp only [Bool.and_eq_true] at h
        exact ss_setI (by omega) (I.h g.g h.1) (I.e g.g h.2.1) (I.e g.g h.2.2.1) h.2.2.2
      · simp only [okS, Bool.and_eq_true, decide_eq_true_eq] at h
        exact ss_aug g.g.nd g.fn h.1.1 (isLoc_ok h.1.2) (I.e g.g h.2)
      · simp only [Bool.and_eq_true, decide_eq_true_eq] at h
        obtain ⟨rfl, h1, h2, h3, h4, h5⟩ := h
        exact ss_app (I.h g.g h1) (I.e g.g h2) h3 h4 h5
      · exact ss_pass
      · exact ss_doc
      · rw [Bool.and_eq_true] at h
        exact ss_expr (I.e g.g h.1) h.2
      · simp only [Bool.and_eq_true] at h
        exact ss_ite (I.t g.g h.1) (J.b g h.2.1) (J.b g h.2.2)
      · simp only [Bool.and_eq_true] at h
        exact ss_for g.g.own g.g.calm (chkI_X g h.1) (chkTg_pg g h.2.1) (J.b g h.2.2) (chkI_set h.1 X.env)
      · simp only [Bool.and_eq_true] at h
        exact ss_whl g.g.own (I.t g.g h.1) (J.b g h.2)
      · exact ss_ret (I.h g.g h)
      · exact ss_retN
      · exact ss_brk
      · cases h
    · unfold chkSs at h
      split at h
      · exact sss_nil
      · rw [Bool.and_eq_true] at h
        exact sss_cons (J.s g h.1) (J.b g h.2)
      · cases h
end
end Tk
namespace Tk
open PySem L2 PySem.W
theorem rds_len {G : Gh} {ds : List D} {vs : List V} (h : RelDs G ds vs) : ds.length = vs.length := h.length
theorem start_rel {cl : Cls} {G : Gh} {H : Hp} {st : List SO} {ds : List D} {vs : List V} {N : List Str} (R : RH cl (ent H G) G st H) (rs : RelDs G ds vs) : RR cl (ent H G) G ⟨startE N.length ds, st⟩ (start N vs) H := by
  have hl := rs.length
  refine ⟨R, ⟨fun i d e => ?_, fun i m e => ?_, fun i j m m' a e e' _ _ => ?_, ?_⟩⟩
  · have e' : (ds.map Slot.val ++ List.replicate (N.length - ds.length) .no)[i]? = some (.val d) := e
    by_cases hi : i < ds.length
    · rw [List.getElem?_append_left (by rw [List.length_map]; exact hi), List.getElem?_map] at e'
      cases q : ds[i]? with
      | none => rw [q] at e'; cases e'
      | some d' =>
        rw [q] at e'
        cases e'
        obtain ⟨v, e1, r⟩ := rs.get q
        refine ⟨v, ?_, r⟩
        show (vs.map some ++ _)[i]? = _
        rw [List.getElem?_append_left (by rw [List.length_map, ← hl]; exact hi), List.getElem?_map, e1]; rfl
    · rw [List.getElem?_append_right (by rw [List.length_map]; omega)] at e'
      have := List.mem_of_getElem? e'
      cases List.eq_of_mem_replicate this
  · have e' : (ds.map Slot.val ++ List.replicate (N.length - ds.length) .no)[i]? = some (.own m) := e
    have := List.mem_of_getElem? e'
    rcases List.mem_append.mp this with z | z
    · obtain ⟨d, _, y⟩ := List.mem_map.mp z
      cases y
    · cases List.eq_of_mem_replicate z
  · have e' : (ds.map Slot.val ++ List.replicate (N.length - ds.length) .no)[i]? = some (.own m) := e
    have := List.mem_of_getElem? e'
    rcases List.mem_append.mp this with z | z
    · obtain ⟨d, _, y⟩ := List.mem_map.mp z
      cases y
    · cases List.eq_of_mem_replicate z
  · show (ds.map Slot.val ++ List.replicate (N.length - ds.length) Slot.no).length = (vs.map some ++ List.replicate (N.length - vs.length) none).length
    simp [hl]
section
variable {P : Program} {w : World} {K : PySem.W.Frag} {mg : Str → Option Value} {base : Heap} {cl : Cls} {xr : Exc → Value → Option Addr → Gh → Hp → Prop} {T : String → Option Fd}
/-- a def of the table, as the program's top leaves it -/
structure DefAt (K : PySem.W.Frag) (mg : Str → Option Value) (T : String → Option Fd) (x : String) (fd : Fd) (ps : List Str) : Prop where
  ex : ∃ (n : Nat) (qual : Str) (st : Stmt) (N : List Str) (a : Addr) (fdat : FuncData), mg (Str.ofString x) = some (.ref a) ∧ Fun K (Str.ofString x) qual st a fdat ∧ (∀ us : List Value, us.length = ps.length → bindArgs fdat ⟨us, []⟩ = pure (ps.zip us)) ∧ FnScope N ps (defScope st) ∧
    ps.length = fd.ps ∧ N.length = fd.n ∧ chkSs (fsOf T) n N (defScope st) fd.body (defBody st) = true
theorem all_ok {ps : String → List Str} (hz : ∀ a xs, cl.Z a xs → ∀ H, SqL K H a (xs.map .int)) (hT : ∀ x fd, T x = some fd → DefAt K mg T x fd (ps x)) (hb : ∀ x ∈ bltNames, mg x = none) : ∀ k f fd, T f = some fd →
    ∃ (a : Addr) (fdat : FuncData), mg (Str.ofString f) = some (.ref a) ∧ PySem.W.keepIn K (.ref a) = true ∧ (∀ us : List Value, us.length = (ps f).length → bindArgs fdat ⟨us, []⟩ = pure ((ps f).zip us)) ∧ (ps f).length = fd.ps ∧ FnOk P w K mg base (L2.CX P w) k a fdat (ps f) (spF cl xr (run T k) f fd.ps) ∧ ∃ oc od osl, K.lookup a = some ⟨oc, od, .func fdat, osl⟩
  | 0, f, fd, h => by
    obtain ⟨n, qual, st, N, a, fdat, h1, F, h3, S, h5, h6, h7⟩ := (hT f fd h).ex
    have no : ∀ vs H Q E, ¬ spF cl xr (run T 0) f fd.ps vs H Q E := fun vs H Q E ⟨G, st, ds, _, _, _, z⟩ => by
      simp only [run] at z
    exact ⟨a, fdat, h1, F.kp, h3, h5, ⟨fun vs H Q E q => absurd q (no vs H Q E), fun A outer s H args us vs Q E _ _ _ _ q => absurd q (no vs H Q E)⟩, by obtain ⟨oc, od, kV, doc, pm, an, cdv, ct, osl, _, lk, _⟩ := F.ex; exact ⟨oc, od, osl, lk⟩⟩
  | k + 1, f, fd, h => by
    have ih := all_ok hz hT hb k
    obtain ⟨n, qual, st, N, a, fdat, h1, F, h3, S, h5, h6, h7⟩ := (hT f fd h).ex
    refine ⟨a, fdat, h1, F.kp, h3, h5, ?_, by obtain ⟨oc, od, kV, doc, pm, an, cdv, ct, osl, _, lk, _⟩ := F.ex; exact ⟨oc, od, osl, lk⟩⟩
    refine F.okX S (fun vs H Q E ⟨G, st, ds, _, r, e, _⟩ => by rw [← r.length, e, h5]) fun cdv A outer s H vs Q E hr ⟨G, sst, ds, R, rs, e, q⟩ => ?_
    let C : Ct := ⟨cl, xr, fun cls d _ H => E cls d H⟩
    have g : GS (cxOf (L2.CX P w) P w K mg base N qual (defScope st) a cdv A outer s H E) C T k :=
      ⟨⟨rfl, S.nd, hr, hb, fun f fd h => ⟨by
        obtain ⟨a, fdat, e1, e2, e3, e4, e5, _⟩ := ih f fd h
        exact ⟨a, fdat, ps f, e1, e2, .all e3, e4, e5⟩⟩, passes_of rfl, takes_of rfl rfl rfl rfl, hz⟩, fun _ => rfl⟩
    refine ⟨tSs C (run T k) fd.body, (sndS_all T k n).b g h7, ent H G, G, ⟨startE fd.n ds, sst⟩, h6 ▸ start_rel R rs, ?_⟩
    simp only [run, h, runD, e, if_true] at q
    revert q
    generalize evSs (run T k) fd.body ⟨startE fd.n ds, sst⟩ = o
    intro q
    cases o with
    | ok fl S1 =>
      cases fl with
      | nx => exact fun G' H' σ l R' => q .non H' G' l R'.h .non
      | bk => exact q.elim
      | rt r => exact fun G' H' σ l R' v rv => q v H' G' l R'.h rv
    | ex x S1 => exact fun G' H' σ l R' cls d rx => q cls d H' G' l R'.h rx
    | no => exact q.elim
/-- a def as the top leaves it, by the rows of the top's facts -/
theorem defAt_mk {h : Heap} (X : K.In h) (G : h.Ns mainGlobals mg) {x : String} {fd : Fd} {N ps : List Str} (n : Nat) (st : Stmt) {f : Addr} {oc : Value} {od an : Option Addr} {osl : Array (Option Value)} {kV doc pm cdv ct : Value}
    (S : FnScope N ps (defScope st)) (h5 : ps.length = fd.ps) (h6 : N.length = fd.n) (h7 : chkSs (fsOf T) n N (defScope st) fd.body (defBody st) = true)
    (hb : ∀ (kV doc pm : Value) (an : Option Addr) (cdv ct : Value) (us : List Value), us.length = ps.length → bindArgs (PySem.W.fnOf (Str.ofString x) (Str.ofString x) (defArgs st) (defBody st) (defScope st) .none kV doc pm an cdv ct) ⟨us, []⟩ = pure (ps.zip us))
    (a : PySem.W.nsIn K mainGlobals (Str.ofString x) = some (some (.ref f))) (l : K.lookup f = some ⟨oc, od, .func (PySem.W.fnOf (Str.ofString x) (Str.ofString x) (defArgs st) (defBody st) (defScope st) .none kV doc pm an cdv ct), osl⟩)
    (c : PySem.W.codeIn K cdv (Str.ofString x) = true) (k : PySem.W.keepIn K (.ref f) = true) : DefAt K mg T x fd ps :=
  ⟨n, Str.ofString x, st, N, f, _, PySem.W.mg_of X G a, fun_mk l c k, hb kV doc pm an cdv ct, S, h5, h6, h7⟩
end
/-- what stands at the law's argument -/
def Zk (K : PySem.W.Frag) (a : Addr) (xs : List Int) : Prop := ∃ (o : Obj) (its : Array Value) (n : Nat), K.lookup a = some o ∧ o.cls = .type "list" ∧ o.dict = none ∧ o.data = .seq its n ∧ its.size ≤ sizeLine ∧ Vals (xs.map .int) its.toList
def clK (cl : String → Option Addr) (K : PySem.W.Frag) : Cls := ⟨cl, Zk K⟩
theorem law_walk {l : PySem.W.OpenLaw} {q : Program} {loose : List Str} {XP : (Str → Option Value) → Heap → Prop} {YP : World → Heap → Prop} {d : DefRec} {K : Params → PySem.W.Frag} {cl : World → String → Option Addr} {xr : World → Exc → Value → Option Addr → Gh → Hp → Prop} {T : String → Option Fd}
    {ps : String → List Str} (k : Nat) {fd : Fd} (hn : l.most = some 63) (hdf : d.params.defaults = []) (hd : d.name = Str.ofString "law") (hr : Room k callerA) (hY : ∀ (w : World) (h : Heap), YP w h → (K w.params).In h) (hps : ps "law" = [("script" : Str)]) (hfd : fd.ps = 1)
    (hl : T "law" = some fd)
    (F : ∀ (w : World) (mg : Str → Option Value) (h : Heap), (K w.params).In h → h.Ns mainGlobals mg → (∀ x fd, T x = some fd → DefAt (K w.params) mg T x fd (ps x)) ∧ ∀ x ∈ bltNames, mg x = none)
    (ev : ∀ ns : List Int, ns.length ≤ 63 → ∃ st, run T k "law" [.scr ns] [] = .ret (.val (.bl true)) st) :
    PySem.W.WalkO q loose XP YP l.row.toRowW d [] (fun f vs => PySem.call f vs) := by
  refine L2.walk_of (n := 63) (k := k) (x := "script") (CX := fun w => L2.CX l.prog w) (sp := fun w => spF (clK (cl w) (K w.params)) (xr w) (run T k) "law" fd.ps) hn (by decide) hdf hr hY (fun w mg fa h KX G hmg => ?_) (fun w H a ns hl1 hO hS => ?_) fun w H s e s' z => ?_
  · obtain ⟨h1, h2⟩ := F w mg h KX G
    have hz : ∀ a xs, (clK (cl w) (K w.params)).Z a xs → ∀ H, SqL (K w.params) H a (xs.map .int) := fun a xs z H => .inr z
    obtain ⟨a, fdat, e1, e2, e3, e4, _, oc, od, osl, lk⟩ := all_ok (P := l.prog) (w := w) (base := h) (xr := xr w) hz h1 h2 k "law" fd hl
    rw [hd] at hmg
    rw [hmg] at e1
    cases e1
    refine ⟨fdat, fun s u => .of_eq (by have := e3 [u] (by rw [hps]; rfl); rw [hps] at this; exact this), fun base KB GB => ?_⟩
    obtain ⟨h1, h2⟩ := F w mg base KB GB
    obtain ⟨a', fdat', e1', _, _, _, e5', oc', od', osl', lk'⟩ := all_ok (P := l.prog) (w := w) (base := base) (xr := xr w) hz h1 h2 k "law" fd hl
    rw [hmg] at e1'
    cases e1'
    rw [lk] at lk'
    cases lk'
    rw [hps] at e5'
    exact e5'
  · obtain ⟨st, e⟩ := ev ns hl1
    rcases hS with hS | hS
    · have hf : ∃ o, H a = some (.frz o (.lst (ns.map V.int))) := by
        rcases hS with hS | ⟨o, hS⟩
        · rcases hO a with z | ⟨o, xs, z⟩
          · rw [z] at hS; cases hS
          · rw [z] at hS; cases hS
        · exact ⟨o, hS⟩
      obtain ⟨o, hf⟩ := hf
      refine ⟨⟨fun b => if b = a then H a else none, [], Zk (K w.params)⟩, [], [.scr ns], ⟨fun _ _ e _ => e, fun b u e => ?_, fun b u e => .inl e, fun b u e => e, rfl, ⟨[], rfl, fun _ h => (by cases h)⟩, List.nodup_nil, fun _ h => (by cases h), rfl, fun n o e => (by simp at e)⟩, .cons (.scr (.inl (show (if a = a then H a else none) = _ by rw [if_pos rfl]; exact hf))) .nil, hfd.symm, ?_⟩
      · have e' : (if b = a then H a else none) = some u := e
        split at e'
        · rename_i z; subst z; exact e'
        · cases e'
      · rw [e]
        intro v H' G' _ _ rv
        cases (show RelD G' (.bl true) v from rv); rfl
    · refine ⟨⟨fun b => none, [], Zk (K w.params)⟩, [], [.scr ns], ⟨fun _ _ e _ => e, fun b u e => (by cases e), fun b u e => .inl e, fun b u e => e, rfl, ⟨[], rfl, fun _ h => (by cases h)⟩, List.nodup_nil, fun _ h => (by cases h), rfl, fun n o e => (by simp at e)⟩, .cons (.scr (o := { cls := .type "list", data := .seq #[] }) (.inr hS)) .nil, hfd.symm, ?_⟩
      rw [e]
      intro v H' G' _ _ rv
      cases (show RelD G' (.bl true) v from rv); rfl
  · obtain ⟨_, _, _, _, _, _, _, _, _, _, _, _, z⟩ := z
    exact z
end Tk
namespace Tk
open PySem L2 PySem.W
def b_subsets_1 : List St := [.app (.var 2) (.bin .add (.tup [(.idx (.var 0) (.var 3))]) (.var 4))]
def b_subsets_2 : List St := [.for_ (.var 4) false (.call "subsets" [(.slc (.var 0) (some (.bin .add (.var 3) (.int 1))) none), (.bin .sub (.var 1) (.int 1))]) b_subsets_1]
/-- subsets: things count found at rest -/
def d_subsets : Fd := ⟨2, 5, [.ite (.cmp .eq (.var 1) (.int 0)) [.ret (.lst [(.tup [])])] [],
    .asg (.var 2) (.lst []),
    .for_ (.var 3) true (.bin .add (.bin .sub (.bif .len [(.var 0)]) (.var 1)) (.int 1)) b_subsets_2,
    .ret (.var 2)]⟩
def b_seat_1 : List St := [.ite (.and (.cmp .isIn (.var 1) (.idx (.var 0) (.var 4))) (.cmp .notIn (.var 4) (.var 3))) [.app (.var 3) (.var 4),
    .ite (.or (.cmp .notIn (.var 4) (.var 2)) (.truth (.call "seat" [(.var 0), (.idx (.var 2) (.var 4)), (.var 2), (.var 3)]))) [.setI (.var 2) (.var 4) (.var 1),
    .ret (.bl true)] []] []]
/-- seat: groups thing holders seen at -/
def d_seat : Fd := ⟨4, 5, [.for_ (.var 4) true (.bif .len [(.var 0)]) b_seat_1,
    .ret (.bl false)]⟩
/-- seated: groups things holders thing -/
def d_seated : Fd := ⟨2, 4, [.asg (.var 2) (.mk .dct0),
    .ret (.bif .len [(.lc [3] (.var 3) [3] false (.var 1) (some (.truth (.call "seat" [(.var 0), (.var 3), (.var 2), (.mk (.lst []))]))))])]⟩
/-- seats: size groups everything count lot -/
def d_seats : Fd := ⟨2, 5, [.asg (.var 2) (.bif .tupRange [(.var 0)]),
    .asg (.var 3) (.val (.call "seated" [(.var 1), (.var 2)])),
    .ret (.tup [(.var 0), (.bif .tuple [(.lc [4] (.var 4) [4] false (.call "subsets" [(.var 2), (.var 3)]) (some (.cmp .eq (.call "seated" [(.var 1), (.var 4)]) (.var 3))))])])]⟩
/-- _law_cell: script k -/
def d_l_cell : Fd := ⟨2, 2, [.ite (.cmp .lt (.var 1) (.bif .len [(.var 0)])) [.ret (.idx (.var 0) (.var 1))] [],
    .ret (.bin .add (.bin .mul (.int 5) (.var 1)) (.int 3))]⟩
def b_l_draws_1 : List St := [.ite (.and (.truth (.var 3)) (.cmp .gt (.var 2) (.int 0))) [.app (.var 5) (.bin .mod (.bif .int [(.var 2)]) (.int 5040)),
    .asg (.var 2) (.bin .fdiv (.var 2) (.int 5040))] [.asg (.var 7) (.bin .mod (.bif .int [(.bin .add (.bin .add (.bin .mul (.var 4) (.int 48271)) (.bin .mul (.bin .add (.var 6) (.int 1)) (.int 69621))) (.int 11))]) (.int 2147483647)),
    .asg (.var 7) (.bin .mod (.bif .int [(.bin .add (.bin .mul (.var 7) (.var 7)) (.bin .mul (.int 40692) (.bin .add (.var 6) (.int 3))))]) (.int 2147483399)),
    .app (.var 5) (.bin .mod (.bif .int [(.bin .fdiv (.var 7) (.int 64))]) (.int 5040))]]
/-- _law_draws: cell count rest digits seed draws k mixed -/
def d_l_draws : Fd := ⟨2, 8, [.asg (.var 2) (.bif .abs [(.bif .int [(.var 0)])]),
    .asg (.var 3) (.cmp .ge (.var 2) (.bin .pow (.int 10) (.int 18))),
    .asg (.var 4) (.var 2),
    .asg (.var 5) (.lst []),
    .for_ (.var 6) true (.var 1) b_l_draws_1,
    .ret (.var 5)]⟩
/-- _law_is_integer: value -/
def d_l_is_integer : Fd := ⟨1, 1, [.ret (.and (.isi (.var 0) .int) (.not (.isi (.var 0) .bool)))]⟩
def b_l_is_set_1 : List St := [.ite (.or (.not (.truth (.call "_law_is_integer" [(.idx (.var 0) (.var 2))]))) (.or (.cmp .lt (.idx (.var 0) (.var 2)) (.int 0)) (.cmp .ge (.idx (.var 0) (.var 2)) (.var 1)))) [.ret (.bl false)] [],
    .ite (.and (.cmp .gt (.var 2) (.int 0)) (.cmp .le (.idx (.var 0) (.var 2)) (.idx (.var 0) (.bin .sub (.var 2) (.int 1))))) [.ret (.bl false)] []]
/-- _law_is_set: value size k -/
def d_l_is_set : Fd := ⟨2, 3, [.ite (.not (.truth (.isi (.var 0) .tuple))) [.ret (.bl false)] [],
    .for_ (.var 2) true (.bif .len [(.var 0)]) b_l_is_set_1,
    .ret (.bl true)]⟩
def b_l_is_offer_1 : List St := [.ite (.not (.truth (.call "_law_is_set" [(.var 3), (.var 1)]))) [.ret (.bl false)] []]
/-- _law_is_offer: told size lots lot -/
def d_l_is_offer : Fd := ⟨3, 4, [.ite (.or (.not (.truth (.isi (.var 0) .tuple))) (.or (.cmp .ne (.bif .len [(.var 0)]) (.int 2)) (.or (.not (.truth (.call "_law_is_integer" [(.idx (.var 0) (.int 0))]))) (.cmp .ne (.idx (.var 0) (.int 0)) (.var 1))))) [.ret (.bl false)] [],
    .ite (.or (.not (.truth (.isi (.idx (.var 0) (.int 1)) .tuple))) (.cmp .ne (.idx (.var 0) (.int 1)) (.var 2))) [.ret (.bl false)] [],
    .for_ (.var 3) false (.idx (.var 0) (.int 1)) b_l_is_offer_1,
    .ret (.bl true)]⟩
def b_l_parts_of_1 : List St := [.asg (.var 1) (.val (.bin .add (.var 1) (.lc [3] (.bin .add (.var 3) (.tup [(.var 2)])) [3] false (.var 1) none)))]
/-- _law_parts_of: size rows thing row -/
def d_l_parts_of : Fd := ⟨1, 4, [.asg (.var 1) (.val (.lst [(.tup [])])),
    .for_ (.var 2) true (.var 0) b_l_parts_of_1,
    .ret (.bif .sorted [(.var 1)])]⟩
/-- _law_within: inner outer thing -/
def d_l_within : Fd := ⟨2, 3, [.ret (.bif .all [(.lc [2] (.cmp .isIn (.var 2) (.var 1)) [2] false (.var 0) none)])]⟩
/-- _law_exchanged: lot out put thing -/
def d_l_exchanged : Fd := ⟨3, 4, [.ret (.bif .tuple [(.bif .sorted [(.bin .add (.lc [3] (.var 3) [3] false (.var 0) (some (.cmp .ne (.var 3) (.var 1)))) (.lst [(.var 2)]))])])]⟩
def b_l_fault_1 : List St := [.ite (.cmp .notIn (.var 2) (.var 3)) [.asg (.var 4) (.val (.lc [5] (.var 5) [5] false (.var 3) (some (.cmp .notIn (.var 5) (.var 1))))),
    .ite (.not (.truth (.bif .any [(.lc [5] (.cmp .isIn (.call "_law_exchanged" [(.var 1), (.var 2), (.var 5)]) (.var 0)) [5] false (.var 4) none)]))) [.ret (.tup [(.var 1), (.var 2), (.var 3)])] []] []]
def b_l_fault_2 : List St := [.for_ (.var 3) false (.var 0) b_l_fault_1]
def b_l_fault_3 : List St := [.for_ (.var 2) false (.var 1) b_l_fault_2]
/-- _law_fault: lots lot thing other puts put -/
def d_l_fault : Fd := ⟨1, 6, [.for_ (.var 1) false (.var 0) b_l_fault_3,
    .ret .non]⟩
def b_l_groups_1 : List St := [.asg (.var 6) (.bif .int [(.idx (.var 2) (.bin .add (.int 2) (.bin .mul (.int 2) (.var 5))))]),
    .ite (.cmp .eq (.bin .mod (.var 6) (.int 8)) (.int 1)) [.app (.var 4) (.tup [])] [.ite (.and (.cmp .eq (.bin .mod (.bin .fdiv (.var 6) (.int 8)) (.int 3)) (.int 1)) (.cmp .gt (.bif .len [(.var 4)]) (.int 0))) [.app (.var 4) (.idx (.var 4) (.bin .mod (.bif .int [(.idx (.var 2) (.bin .add (.int 3) (.bin .mul (.int 2) (.var 5))))]) (.bif .len [(.var 4)])))] [.app (.var 4) (.idx (.var 3) (.bin .mod (.bif .int [(.idx (.var 2) (.bin .add (.int 3) (.bin .mul (.int 2) (.var 5))))]) (.bif .len [(.var 3)])))]]]
/-- _law_groups: cell size draws parts groups k kind -/
def d_l_groups : Fd := ⟨2, 7, [.asg (.var 2) (.val (.call "_law_draws" [(.var 0), (.int 12)])),
    .asg (.var 3) (.val (.call "_law_parts_of" [(.var 1)])),
    .asg (.var 4) (.lst []),
    .for_ (.var 5) true (.idx (.tup [(.int 3), (.int 2), (.int 4), (.int 3), (.int 1), (.int 0), (.int 5)]) (.bin .mod (.bif .int [(.idx (.var 2) (.int 0))]) (.int 7))) b_l_groups_1,
    .ret (.bif .tuple [(.var 4)])]⟩
/-- _law_met: groups row group thing -/
def d_l_met : Fd := ⟨2, 4, [.ret (.bif .len [(.lc [2] (.var 2) [2] false (.var 0) (some (.truth (.bif .any [(.lc [3] (.cmp .isIn (.var 3) (.var 2)) [3] false (.var 1) none)]))))])]⟩
def b_l_tells_1 : List St := [.ite (.not (.truth (.bif .any [(.lc [9] (.call "_law_within" [(.var 9), (.var 5)]) [9] false (.var 3) none)]))) [.app (.var 4) (.var 5)] []]
/-- _law_tells: size groups parts short seated_v row most due told other -/
def d_l_tells : Fd := ⟨2, 10, [.asg (.var 2) (.val (.call "_law_parts_of" [(.var 0)])),
    .asg (.var 3) (.val (.lc [5] (.var 5) [5] false (.var 2) (some (.cmp .lt (.call "_law_met" [(.var 1), (.var 5)]) (.bif .len [(.var 5)]))))),
    .asg (.var 4) (.lst []),
    .for_ (.var 5) false (.var 2) b_l_tells_1,
    .asg (.var 6) (.bif .maxL [(.lc [5] (.bif .len [(.var 5)]) [5] false (.var 4) none)]),
    .asg (.var 7) (.bif .tuple [(.lc [5] (.var 5) [5] false (.var 4) (some (.cmp .eq (.bif .len [(.var 5)]) (.var 6))))]),
    .asg (.var 8) (.val (.call "seats" [(.var 0), (.var 1)])),
    .ret (.and (.call "_law_is_offer" [(.var 8), (.var 0), (.var 7)]) (.isN (.call "_law_fault" [(.idx (.var 8) (.int 1))])))]⟩
/-- law: script head first second groups others -/
def d_law : Fd := ⟨1, 6, [.asg (.var 1) (.val (.call "_law_draws" [(.call "_law_cell" [(.var 0), (.int 0)]), (.int 2)])),
    .asg (.var 2) (.idx (.tup [(.int 4), (.int 5), (.int 3), (.int 4), (.int 2), (.int 5), (.int 1), (.int 0)]) (.bin .mod (.bif .int [(.idx (.var 1) (.int 0))]) (.int 8))),
    .asg (.var 3) (.idx (.tup [(.int 3), (.int 4), (.int 5), (.int 6), (.int 2)]) (.bin .mod (.bif .int [(.idx (.var 1) (.int 1))]) (.int 5))),
    .asg (.var 4) (.val (.call "_law_groups" [(.call "_law_cell" [(.var 0), (.int 1)]), (.var 2)])),
    .asg (.var 5) (.val (.call "_law_groups" [(.call "_law_cell" [(.var 0), (.int 2)]), (.var 3)])),
    .ite (.or (.not (.truth (.call "_law_tells" [(.var 2), (.var 4)]))) (.not (.truth (.call "_law_tells" [(.var 3), (.var 5)])))) [.ret (.bl false)] [],
    .ret (.call "_law_tells" [(.var 2), (.var 4)])]⟩
def T : String → Option Fd
  | "subsets" => some d_subsets
  | "seat" => some d_seat
  | "seated" => some d_seated
  | "seats" => some d_seats
  | "_law_cell" => some d_l_cell
  | "_law_draws" => some d_l_draws
  | "_law_is_integer" => some d_l_is_integer
  | "_law_is_set" => some d_l_is_set
  | "_law_is_offer" => some d_l_is_offer
  | "_law_parts_of" => some d_l_parts_of
  | "_law_within" => some d_l_within
  | "_law_exchanged" => some d_l_exchanged
  | "_law_fault" => some d_l_fault
  | "_law_groups" => some d_l_groups
  | "_law_met" => some d_l_met
  | "_law_tells" => some d_l_tells
  | "law" => some d_law
  | _ => none
def psT : String → List Str
  | "subsets" => ["things", "count"]
  | "seat" => ["groups", "thing", "holders", "seen"]
  | "seated" => ["groups", "things"]
  | "seats" => ["size", "groups"]
  | "_law_cell" => ["script", "k"]
  | "_law_draws" => ["cell", "count"]
  | "_law_is_integer" => ["value"]
  | "_law_is_set" => ["value", "size"]
  | "_law_is_offer" => ["told", "size", "lots"]
  | "_law_parts_of" => ["size"]
  | "_law_within" => ["inner", "outer"]
  | "_law_exchanged" => ["lot", "out", "put"]
  | "_law_fault" => ["lots"]
  | "_law_groups" => ["cell", "size"]
  | "_law_met" => ["groups", "row"]
  | "_law_tells" => ["size", "groups"]
  | "law" => ["script"]
  | _ => []
end Tk
namespace Tk
open PySem L2
section
variable {Φ : Fns} {S : Sg}
@[simp] theorem x_var (i : Nat) : evX Φ (.var i) S = match S.env[i]? with
  | some (.val d) => .ok (.val d) S
  | some (.own m) => .ok (.val m.frz) { S with env := S.env.set i (.val m.frz) }
  | _ => .no := by simp only [evX] <;> rfl
@[simp] theorem x_non : evX Φ .non S = .ok (.val .non) S := by simp only [evX] <;> rfl
@[simp] theorem x_bl (b : Bool) : evX Φ (.bl b) S = .ok (.val (.bl b)) S := by simp only [evX] <;> rfl
@[simp] theorem x_int (i : Int) : evX Φ (.int i) S = .ok (.val (.int i)) S := by simp only [evX] <;> rfl
@[simp] theorem x_str (s : String) : evX Φ (.str s) S = .ok (.val (.str (Str.ofString s))) S := by simp only [evX] <;> rfl
@[simp] theorem x_tup (es : List E) : evX Φ (.tup es) S = (evL Φ es S).bind fun ds S => .ok (.val (.tup ds)) S := by simp only [evX] <;> rfl
@[simp] theorem x_lst (es : List E) : evX Φ (.lst es) S = (evL Φ es S).bind fun ds S => .ok (.own (.lst ds)) S := by simp only [evX] <;> rfl
@[simp] theorem x_dct0 : evX Φ .dct0 S = .ok (.own (.dct [] [])) S := by simp only [evX] <;> rfl
@[simp] theorem x_bin (op : Bop) (a b : E) : evX Φ (.bin op a b) S = (hd a (evX Φ a) S).bind fun ha S => (hd b (evX Φ b) S).bind fun hb S => Out.opt ((rdHs S [ha, hb]).bind fun l => match l with
      | [x, y] => binD op x y
      | _ => none) S := by simp only [evX] <;> rfl
@[simp] theorem x_neg (a : E) : evX Φ (.neg a) S = (evX Φ a S).bind fun r S => match r.frz with
      | .int i => .ok (.val (.int (-i))) S
      | _ => .no := by simp only [evX] <;> rfl
@[simp] theorem x_cmp (op : Cop) (a b : E) : evX Φ (.cmp op a b) S = (hd a (evX Φ a) S).bind fun ha S => (hd b (evX Φ b) S).bind fun hb S => Out.opt ((rdHs S [ha, hb]).bind fun l => match l with
      | [x, y] => (cmpD op x y).map fun c => .val (.bl c)
      | _ => none) S := by simp only [evX] <;> rfl
@[simp] theorem x_isN (a : E) : evX Φ (.isN a) S = (hd a (evX Φ a) S).bind fun ha S => Out.opt ((rdH S ha).map fun d => .val (.bl (match d with | .non => true | _ => false))) S := by simp only [evX] <;> rfl
@[simp] theorem x_notN (a : E) : evX Φ (.notN a) S = (hd a (evX Φ a) S).bind fun ha S => Out.opt ((rdH S ha).map fun d => .val (.bl (match d with | .non => false | _ => true))) S := by simp only [evX] <;> rfl
@[simp] theorem x_not (a : E) : evX Φ (.not a) S = (evX Φ a S).bind fun r S => match r with
      | .val (.bl b) => .ok (.val (.bl (!b))) S
      | _ => .no := by simp only [evX] <;> rfl
@[simp] theorem x_truth (a : E) : evX Φ (.truth a) S = (hd a (evX Φ a) S).bind fun ha S => Out.opt (((rdH S ha).bind truthD).map fun k => .val (.bl k)) S := by simp only [evX] <;> rfl
@[simp] theorem x_and (a b : E) : evX Φ (.and a b) S = (evX Φ a S).bind fun r S => match r with
      | .val (.bl true) => (evX Φ b S).bind fun r S => match r with
        | .val (.bl k) => .ok (.val (.bl k)) S
        | _ => .no
      | .val (.bl false) => .ok (.val (.bl false)) S
      | _ => .no := by simp only [evX] <;> rfl
@[simp] theorem x_or (a b : E) : evX Φ (.or a b) S = (evX Φ a S).bind fun r S => match r with
      | .val (.bl false) => (evX Φ b S).bind fun r S => match r with
        | .val (.bl k) => .ok (.val (.bl k)) S
        | _ => .no
      | .val (.bl true) => .ok (.val (.bl true)) S
      | _ => .no := by simp only [evX] <;> rfl
@[simp] theorem x_ife (t a b : E) : evX Φ (.ife t a b) S = (evX Φ t S).bind fun r S => match r with
      | .val (.bl true) => (evX Φ a S).bind fun r S => .ok (.val r.frz) S
      | .val (.bl false) => (evX Φ b S).bind fun r S => .ok (.val r.frz) S
      | _ => .no := by simp only [evX] <;> rfl
@[simp] theorem x_idx (a i : E) : evX Φ (.idx a i) S = (hd a (evX Φ a) S).bind fun ha S => (hd i (evX Φ i) S).bind fun hi S => Out.opt ((rdHs S [ha, hi]).bind fun l => match l with
      | [x, y] => (idxD x y).map .val
      | _ => none) S := by simp only [evX] <;> rfl
@[simp] theorem x_slc (a : E) (lo hi : Option E) : evX Φ (.slc a lo hi) S = (hd a (evX Φ a) S).bind fun ha S => (evO Φ lo S).bind fun l S => (evO Φ hi S).bind fun h S => Out.opt ((rdH S ha).bind fun x => slcV x l h) S := by simp only [evX] <;> rfl
@[simp] theorem x_call (f : String) (es : List E) : evX Φ (.call f es) S = (evL Φ es S).bind fun ds S => callD Φ f ds S := by simp only [evX] <;> rfl
@[simp] theorem x_bif (f : Bif) (es : List E) : evX Φ (.bif f es) S = (evH Φ es S).bind fun hs S => Out.opt ((rdHs S hs).bind (bifD f)) S := by simp only [evX] <;> rfl
@[simp] theorem x_isi (a : E) (t : Ty) : evX Φ (.isi a t) S = (hd a (evX Φ a) S).bind fun ha S => Out.opt (((rdH S ha).bind fun d => isiD d t).map fun k => .val (.bl k)) S := by simp only [evX] <;> rfl
@[simp] theorem x_val (e : E) : evX Φ (.val e) S = (evX Φ e S).bind fun r S => .ok (.val r.frz) S := by simp only [evX] <;> rfl
@[simp] theorem x_mk (e : E) : evX Φ (.mk e) S = (evX Φ e S).bind fun r S => match r with
      | .own m => .ok (.val (.ref S.st.length)) { S with st := S.st ++ [.mo m] }
      | _ => .no := by simp only [evX] <;> rfl
@[simp] theorem l_nil : evL Φ [] S = .ok [] S := by simp only [evL] <;> rfl
@[simp] theorem l_cons (e : E) (es : List E) : evL Φ (e :: es) S = (evX Φ e S).bind fun r S => (evL Φ es S).bind fun ds S => .ok (r.frz :: ds) S := by simp only [evL] <;> rfl
@[simp] theorem h_nil : evH Φ [] S = .ok [] S := by simp only [evH] <;> rfl
@[simp] theorem h_cons (e : E) (es : List E) : evH Φ (e :: es) S = (hd e (evX Φ e) S).bind fun h S => (evH Φ es S).bind fun hs S => .ok (h :: hs) S := by simp only [evH] <;> rfl
@[simp] theorem o_none : evO Φ none S = .ok none S := by simp only [evO] <;> rfl
@[simp] theorem o_some (e : E) : evO Φ (some e) S = (evX Φ e S).bind fun r S => match r.frz with
    | .int i => .ok (some i) S
    | _ => .no := by simp only [evO] <;> rfl
@[simp] theorem ss_nil' : evSs Φ [] S = .ok .nx S := by simp only [evSs] <;> rfl
@[simp] theorem ss_cons' (s : St) (ss : List St) : evSs Φ (s :: ss) S = (evS Φ s S).bind fun fl S => match fl with
    | .nx => evSs Φ ss S
    | .bk => .ok .bk S
    | .rt r => .ok (.rt r) S := by simp only [evSs] <;> rfl
@[simp] theorem s_asg (t : Tg) (e : E) : evS Φ (.asg t e) S = (evX Φ e S).bind fun r S => Out.opt ((asgTg S.env t r).map fun _ => Fl.nx) { S with env := (asgTg S.env t r).getD S.env } := by simp only [evS] <;> rfl
@[simp] theorem s_setI (a i e : E) : evS Φ (.setI a i e) S = (evX Φ e S).bind fun r S => (hd a (evX Φ a) S).bind fun h S => (evX Φ i S).bind fun j S => match (getM S h).bind fun m => setM m j.frz r.frz with
      | some m => .ok .nx (putM S m h)
      | none => .no := by simp only [evS] <;> rfl
@[simp] theorem s_app (a e : E) : evS Φ (.app a e) S = (hd a (evX Φ a) S).bind fun h S => match getM S h with
      | some (.lst _) => (evX Φ e S).bind fun r S => match (getM S h).bind fun m => appM m r.frz with
        | some m => .ok .nx (putM S m h)
        | none => .no
      | _ => .no := by simp only [evS] <;> rfl
@[simp] theorem s_expr (e : E) : evS Φ (.expr e) S = (evX Φ e S).bind fun _ S => .ok .nx S := by simp only [evS] <;> rfl
@[simp] theorem s_ite (t : E) (a b : List St) : evS Φ (.ite t a b) S = (evX Φ t S).bind fun r S => match r with
      | .val (.bl true) => evSs Φ a S
      | .val (.bl false) => evSs Φ b S
      | _ => .no := by simp only [evS] <;> rfl
@[simp] theorem s_ret (e : E) : evS Φ (.ret e) S = match isVar e with
      | some i => match S.env[i]? with
        | some (.val d) => .ok (.rt (.val d)) S
        | some (.own m) => .ok (.rt (.own m)) S
        | _ => .no
      | none => (evX Φ e S).bind fun r S => .ok (.rt r) S := by simp only [evS] <;> rfl
@[simp] theorem s_retN : evS Φ .retN S = .ok (.rt (.val .non)) S := by simp only [evS] <;> rfl
@[simp] theorem s_brk : evS Φ .brk S = .ok .bk S := by simp only [evS] <;> rfl
@[simp] theorem s_pass : evS Φ .pass S = .ok .nx S := by simp only [evS] <;> rfl
noncomputable def forStep (Φ : Fns) (t : Tg) (body : List St) (x : D) (S : Sg) : Out Fl := match forTg S t x with
          | some S => evSs Φ body S
          | none => .no
theorem s_for (t : Tg) (rg : Bool) (it : E) (body : List St) : evS Φ (.for_ t rg it body) S = (evX Φ it S).bind fun r S => match srcOf rg (.now r.frz) S with
      | none => .no
      | some (d, items) => forLoop (forStep Φ t body) (stillSrc rg (.now r.frz) d) items S := by simp only [evS] <;> rfl
theorem x_lc (vs : List Nat) (elt : E) (tg : List Nat) (rg : Bool) (it : E) (cond : Option E) : evX Φ (.lc vs elt tg rg it cond) S = (hd it (evX Φ it) S).bind fun h S => match srcOf rg h S with
      | none => .no
      | some (d, items) => if notOwn S.env vs && srcOut vs h then
          (lcLoop (lcTurn vs tg (evC Φ cond) (evX Φ elt)) (stillSrc rg h d) items [] S).bind fun acc S' => .ok (.own (.lst acc)) { S' with env := backE S.env S'.env vs }
        else .no := by simp only [evX] <;> rfl
@[simp] theorem hd_var (i : Nat) (f : Sg → Out Rv) : hd (.var i) f S = match S.env[i]? with
    | some (.val _) => .ok (.slot i) S
    | some (.own _) => .ok (.slot i) S
    | _ => .no := rfl
end
/-- what is no name -/
def notVar : E → Bool
  | .var _ => false
  | _ => true
theorem hd_now {a : E} {f : Sg → Out Rv} {S : Sg} (h : notVar a = true) : hd a f S = (f S).bind fun r S' => .ok (.now r.frz) S' := by
  cases a <;> first | rfl | (cases h)
@[simp] theorem hd_non (f : Sg → Out Rv) (S : Sg) : hd (.non ) f S = (f S).bind fun r S' => .ok (.now r.frz) S' := rfl
@[simp] theorem hd_bl (b : Bool) (f : Sg → Out Rv) (S : Sg) : hd (.bl b) f S = (f S).bind fun r S' => .ok (.now r.frz) S' := rfl
@[simp] theorem hd_int (i : Int) (f : Sg → Out Rv) (S : Sg) : hd (.int i) f S = (f S).bind fun r S' => .ok (.now r.frz) S' := rfl
@[simp] theorem hd_str (s : String) (f : Sg → Out Rv) (S : Sg) : hd (.str s) f S = (f S).bind fun r S' => .ok (.now r.frz) S' := rfl
@[simp] theorem hd_tup (es : List E) (f : Sg → Out Rv) (S : Sg) : hd (.tup es) f S = (f S).bind fun r S' => .ok (.now r.frz) S' := rfl
@[simp] theorem hd_lst (es : List E) (f : Sg → Out Rv) (S : Sg) : hd (.lst es) f S = (f S).bind fun r S' => .ok (.now r.frz) S' := rfl
@[simp] theorem hd_dct0 (f : Sg → Out Rv) (S : Sg) : hd (.dct0 ) f S = (f S).bind fun r S' => .ok (.now r.frz) S' := rfl
@[simp] theorem hd_bin (o : Bop) (a b : E) (f : Sg → Out Rv) (S : Sg) : hd (.bin o a b) f S = (f S).bind fun r S' => .ok (.now r.frz) S' := rfl
@[simp] theorem hd_neg (a : E) (f : Sg → Out Rv) (S : Sg) : hd (.neg a) f S = (f S).bind fun r S' => .ok (.now r.frz) S' := rfl
@[simp] theorem hd_cmp (o : Cop) (a b : E) (f : Sg → Out Rv) (S : Sg) : hd (.cmp o a b) f S = (f S).bind fun r S' => .ok (.now r.frz) S' := rfl
@[simp] theorem hd_isN (a : E) (f : Sg → Out Rv) (S : Sg) : hd (.isN a) f S = (f S).bind fun r S' => .ok (.now r.frz) S' := rfl
@[simp] theorem hd_notN (a : E) (f : Sg → Out Rv) (S : Sg) : hd (.notN a) f S = (f S).bind fun r S' => .ok (.now r.frz) S' := rfl
@[simp] theorem hd_not (a : E) (f : Sg → Out Rv) (S : Sg) : hd (.not a) f S = (f S).bind fun r S' => .ok (.now r.frz) S' := rfl
@[simp] theorem hd_truth (a : E) (f : Sg → Out Rv) (S : Sg) : hd (.truth a) f S = (f S).bind fun r S' => .ok (.now r.frz) S' := rfl
@[simp] theorem hd_and (a b : E) (f : Sg → Out Rv) (S : Sg) : hd (.and a b) f S = (f S).bind fun r S' => .ok (.now r.frz) S' := rfl
@[simp] theorem hd_or (a b : E) (f : Sg → Out Rv) (S : Sg) : hd (.or a b) f S = (f S).bind fun r S' => .ok (.now r.frz) S' := rfl
@[simp] theorem hd_ife (t a b : E) (f : Sg → Out Rv) (S : Sg) : hd (.ife t a b) f S = (f S).bind fun r S' => .ok (.now r.frz) S' := rfl
@[simp] theorem hd_idx (a b : E) (f : Sg → Out Rv) (S : Sg) : hd (.idx a b) f S = (f S).bind fun r S' => .ok (.now r.frz) S' := rfl
@[simp] theorem hd_slc (a : E) (l h : Option E) (f : Sg → Out Rv) (S : Sg) : hd (.slc a l h) f S = (f S).bind fun r S' => .ok (.now r.frz) S' := rfl
@[simp] theorem hd_call (g : String) (es : List E) (f : Sg → Out Rv) (S : Sg) : hd (.call g es) f S = (f S).bind fun r S' => .ok (.now r.frz) S' := rfl
@[simp] theorem hd_bif (g : Bif) (es : List E) (f : Sg → Out Rv) (S : Sg) : hd (.bif g es) f S = (f S).bind fun r S' => .ok (.now r.frz) S' := rfl
@[simp] theorem hd_isi (a : E) (t : Ty) (f : Sg → Out Rv) (S : Sg) : hd (.isi a t) f S = (f S).bind fun r S' => .ok (.now r.frz) S' := rfl
@[simp] theorem hd_val (a : E) (f : Sg → Out Rv) (S : Sg) : hd (.val a) f S = (f S).bind fun r S' => .ok (.now r.frz) S' := rfl
@[simp] theorem hd_mk (a : E) (f : Sg → Out Rv) (S : Sg) : hd (.mk a) f S = (f S).bind fun r S' => .ok (.now r.frz) S' := rfl
@[simp] theorem hd_lc (vs : List Nat) (a : E) (tg : List Nat) (rg : Bool) (it : E) (c : Option E) (f : Sg → Out Rv) (S : Sg) : hd (.lc vs a tg rg it c) f S = (f S).bind fun r S' => .ok (.now r.frz) S' := rfl
theorem run_def {T : String → Option Fd} {k : Nat} {f : String} {ds : List D} {st : List SO} {fd : Fd} (h : T f = some fd) (hl : ds.length = fd.ps) : run T (k + 1) f ds st = ansOf (evSs (run T k) fd.body ⟨startE fd.n ds, st⟩) := by
  simp only [run, h, runD, hl, if_true]
/-- a walk by an invariant -/
theorem for_inv {step : D → Sg → Out Fl} {ok : Sg → Bool} (I : Nat → Sg → Prop) : ∀ (items : List D) (n : Nat) (S : Sg), I n S → (∀ i x S, items[i]? = some x → I (n + i) S → ∃ S', step x S = .ok .nx S' ∧ ok S' = true ∧ I (n + i + 1) S') →
    ∃ S', forLoop step ok items S = .ok .nx S' ∧ I (n + items.length) S'
  | [], n, S, h, _ => ⟨S, rfl, h⟩
  | x :: xs, n, S, h, hs => by
    obtain ⟨S1, e1, e2, h1⟩ := hs 0 x S rfl h
    obtain ⟨S2, e3, h2⟩ := for_inv I xs (n + 1) S1 h1 fun i y S q r => by
      have := hs (i + 1) y S (by simpa using q) (by rw [show n + (i + 1) = n + 1 + i by omega]; exact r)
      rw [show n + (i + 1) + 1 = n + 1 + i + 1 by omega] at this
      exact this
    refine ⟨S2, ?_, by rw [List.length_cons, show n + (xs.length + 1) = n + 1 + xs.length by omega]; exact h2⟩
    simp only [forLoop, e1, Out.bind_ok, e2, if_true]; exact e3
/-- .. that may end by a return -/
theorem for_inv2 {step : D → Sg → Out Fl} {ok : Sg → Bool} (I : Nat → Sg → Prop) (J : Rv → Sg → Prop) : ∀ (items : List D) (n : Nat) (S : Sg), I n S →
    (∀ i x S, items[i]? = some x → I (n + i) S → (∃ S', step x S = .ok .nx S' ∧ ok S' = true ∧ I (n + i + 1) S') ∨ ∃ r S', step x S = .ok (.rt r) S' ∧ J r S') →
    (∃ S', forLoop step ok items S = .ok .nx S' ∧ I (n + items.length) S') ∨ ∃ r S', forLoop step ok items S = .ok (.rt r) S' ∧ J r S'
  | [], n, S, h, _ => .inl ⟨S, rfl, h⟩
  | x :: xs, n, S, h, hs => by
    rcases hs 0 x S rfl h with ⟨S1, e1, e2, h1⟩ | ⟨r, S1, e1, h1⟩
    · rcases for_inv2 I J xs (n + 1) S1 h1 fun i y S q r => by
        have := hs (i + 1) y S (by simpa using q) (by rw [show n + (i + 1) = n + 1 + i by omega]; exact r)
        rw [show n + (i + 1) + 1 = n + 1 + i + 1 by omega] at this
        exact this with ⟨S2, e3, h2⟩ | ⟨r, S2, e3, h2⟩
      · refine .inl ⟨S2, ?_, by rw [List.length_cons, show n + (xs.length + 1) = n + 1 + xs.length by omega]; exact h2⟩
        simp only [forLoop, e1, Out.bind_ok, e2, if_true]; exact e3
      · refine .inr ⟨r, S2, ?_, h2⟩
        simp only [forLoop, e1, Out.bind_ok, e2, if_true]; exact e3
    · exact .inr ⟨r, S1, by simp only [forLoop, e1, Out.bind_ok], h1⟩
/-- a comprehension by an invariant on what is gathered -/
theorem lc_inv {step : D → Sg → Out (Option D)} {ok : Sg → Bool} (I : Nat → List D → Sg → Prop) : ∀ (items : List D) (n : Nat) (acc : List D) (S : Sg), I n acc S →
    (∀ i x acc S, items[i]? = some x → I (n + i) acc S → ∃ o S', step x S = .ok o S' ∧ ok S' = true ∧ I (n + i + 1) (acc ++ o.toList) S') →
    ∃ acc' S', lcLoop step ok items acc S = .ok acc' S' ∧ I (n + items.length) acc' S'
  | [], n, acc, S, h, _ => ⟨acc, S, rfl, h⟩
  | x :: xs, n, acc, S, h, hs => by
    obtain ⟨o, S1, e1, e2, h1⟩ := hs 0 x acc S rfl h
    obtain ⟨acc', S2, e3, h2⟩ := lc_inv I xs (n + 1) _ S1 h1 fun i y acc S q r => by
      have := hs (i + 1) y acc S (by simpa using q) (by rw [show n + (i + 1) = n + 1 + i by omega]; exact r)
      rw [show n + (i + 1) + 1 = n + 1 + i + 1 by omega] at this
      exact this
    refine ⟨acc', S2, ?_, by rw [List.length_cons, show n + (xs.length + 1) = n + 1 + xs.length by omega]; exact h2⟩
    simp only [lcLoop, e1, e2, if_true]; exact e3
/-- .. a pure one: the state is the same but for the target's slots -/
theorem lc_pure {step : D → Sg → Out (Option D)} {ok : Sg → Bool} {env : List Slot} {st : List SO} {vs : List Nat} (hv : ∀ i ∈ vs, i < env.length) (f : D → Option D) :
    ∀ (items acc : List D) (e0 : List Slot), e0.length = env.length → (∀ j, j ∉ vs → e0[j]? = env[j]?) →
    (∀ x ∈ items, ∀ e, e.length = env.length → (∀ j, j ∉ vs → e[j]? = env[j]?) → ∃ e', step x ⟨e, st⟩ = .ok (f x) ⟨e', st⟩ ∧ ok ⟨e', st⟩ = true ∧ e'.length = env.length ∧ ∀ j, j ∉ vs → e'[j]? = env[j]?) →
    ∃ e', lcLoop step ok items acc ⟨e0, st⟩ = .ok (acc ++ items.filterMap f) ⟨e', st⟩ ∧ backE env e' vs = env
  | [], acc, e0, hl, ho, _ => ⟨e0, by simp [lcLoop], by
    apply List.ext_getElem?
    intro j
    by_cases hj : j ∈ vs
    · have h1 := hv j hj
      rw [backE, foldl_set_in _ _ _ _ hj (by omega), List.getD_eq_getElem?_getD, List.getElem?_eq_getElem h1]; rfl
    · rw [backE, foldl_set_out _ _ _ _ hj, ho j hj]⟩
  | x :: xs, acc, e0, hl, ho, hs => by
    obtain ⟨e1, q1, q2, q3, q4⟩ := hs x List.mem_cons_self e0 hl ho
    obtain ⟨e2, r1, r2⟩ := lc_pure hv f xs (acc ++ (f x).toList) e1 q3 q4 fun y hy => hs y (List.mem_cons_of_mem _ hy)
    refine ⟨e2, ?_, r2⟩
    simp only [lcLoop, q1, q2, if_true, r1]
    congr 1
    cases h : f x <;> simp [List.filterMap_cons, h]
end Tk
namespace Tk
open PySem L2
def tR (xs : List Int) : D := .tup (xs.map .int)
def pI (xs : List Int) : PyData := .tuple (xs.map .int)
theorem pys_int : ∀ xs : List Int, D.pys (xs.map .int) = some (xs.map PyData.int)
  | [] => by simp [D.pys]
  | x :: xs => by simp [D.pys, D.py, pys_int xs]
theorem pys_row : ∀ xs : List (List Int), D.pys (xs.map tR) = some (xs.map pI)
  | [] => by simp [D.pys]
  | x :: xs => by simp [D.pys, pys_row xs, tR, pI, D.py, pys_int]
theorem py_int (i : Int) : (D.int i).py = some (.int i) := by simp [D.py]
theorem py_tR (xs : List Int) : (tR xs).py = some (pI xs) := by simp [tR, pI, D.py, pys_int]
theorem lay_ints : ∀ xs : List Int, PyData.canLayAll0 (xs.map .int) = true
  | [] => by simp [PyData.canLayAll0]
  | x :: xs => by simp [PyData.canLayAll0, PyData.canLay0, lay_ints xs]
theorem dep_ints : ∀ xs : List Int, PyData.depthAll (xs.map .int) = 0
  | [] => by simp [PyData.depthAll]
  | x :: xs => by simp [PyData.depthAll, PyData.depth, dep_ints xs]
theorem lay_rows : ∀ xs : List (List Int), PyData.canLayAll0 (xs.map pI) = true
  | [] => by simp [PyData.canLayAll0]
  | x :: xs => by simp [PyData.canLayAll0, pI, PyData.canLay0, lay_ints, lay_rows xs]
theorem dep_rows : ∀ xs : List (List Int), PyData.depthAll (xs.map pI) ≤ 1
  | [] => by simp [PyData.depthAll]
  | x :: xs => by
    have := dep_rows xs
    simp [PyData.depthAll, pI, PyData.depth, dep_ints]
    omega
@[simp] theorem plain_i (i : Int) : (D.int i).plain = true := by simp [D.plain, D.py, SeqAt.shaped, PyData.canLay0, PyData.depth]
@[simp] theorem plain_tR (xs : List Int) : (tR xs).plain = true := by
  simp [D.plain, py_tR, pI, SeqAt.shaped, PyData.canLay0, PyData.depth, lay_ints, dep_ints]
@[simp] theorem plainR_tup (xs : List (List Int)) : (D.tup (xs.map tR)).plain = true := by
  have := dep_rows xs
  simp [D.plain, D.py, pys_row, SeqAt.shaped, PyData.canLay0, PyData.depth, lay_rows]
  omega
@[simp] theorem plainR_lst (xs : List (List Int)) : (D.lst (xs.map tR)).plain = true := by
  have := dep_rows xs
  simp [D.plain, D.py, pys_row, SeqAt.shaped, PyData.canLay0, PyData.depth, lay_rows]
  omega
@[simp] theorem plainI_lst (xs : List Int) : (D.lst (xs.map .int)).plain = true := by
  simp [D.plain, D.py, pys_int, SeqAt.shaped, PyData.canLay0, PyData.depth, lay_ints, dep_ints]
theorem eqv_ints : ∀ xs ys : List Int, PyData.eqvAll (xs.map .int) (ys.map .int) = decide (xs = ys)
  | [], [] => by simp [PyData.eqvAll]
  | [], _ :: _ => by simp [PyData.eqvAll]
  | _ :: _, [] => by simp [PyData.eqvAll]
  | x :: xs, y :: ys => by
    simp [PyData.eqvAll, PyData.eqv, eqv_ints xs ys, Bool.decide_and, Bool.beq_eq_decide_eq]
theorem eqv_pI (xs ys : List Int) : PyData.eqv (pI xs) (pI ys) = decide (xs = ys) := by
  simp [pI, PyData.eqv, eqv_ints]
theorem eqv_rows : ∀ xs ys : List (List Int), PyData.eqvAll (xs.map pI) (ys.map pI) = decide (xs = ys)
  | [], [] => by simp [PyData.eqvAll]
  | [], _ :: _ => by simp [PyData.eqvAll]
  | _ :: _, [] => by simp [PyData.eqvAll]
  | x :: xs, y :: ys => by
    simp [PyData.eqvAll, eqv_pI, eqv_rows xs ys, Bool.decide_and]
@[simp] theorem eqD_int (i j : Int) : eqD (.int i) (.int j) = some (decide (i = j)) := by
  simp [eqD, pyD, py_int, PyData.eqv, Bool.beq_eq_decide_eq]
@[simp] theorem eqD_tR (x y : List Int) : eqD (tR x) (tR y) = some (decide (x = y)) := by
  simp [eqD, pyD, py_tR, eqv_pI]
@[simp] theorem eqD_rows (x y : List (List Int)) : eqD (.tup (x.map tR)) (.tup (y.map tR)) = some (decide (x = y)) := by
  simp [eqD, pyD, D.py, pys_row, PyData.eqv, eqv_rows]
@[simp] theorem memD_int (i : Int) (xs : List Int) : memD (.int i) (xs.map .int) = some (decide (i ∈ xs)) := by
  simp only [memD, plain_i, plainI_lst, Bool.and_self, if_true, Option.some.injEq]
  rw [List.any_map, Bool.eq_iff_iff]
  simp [pyD, py_int, PyData.eqv]
@[simp] theorem memD_tR (x : List Int) (xs : List (List Int)) : memD (tR x) (xs.map tR) = some (decide (x ∈ xs)) := by
  simp only [memD, plain_tR, plainR_lst, Bool.and_self, if_true, Option.some.injEq]
  rw [List.any_map, Bool.eq_iff_iff]
  simp [pyD, py_tR, eqv_pI]
theorem le_tR (a b : List Int) : leD (tR a) (tR b) = decide (a ≤ b) := by
  have h := congrFun (congrFun (PySem.W.dataLe_rows (fun x : List Int => x)) a) b
  rw [← h]
  simp only [leD, pyD, PySem.W.dataLe_eq, py_tR, Option.getD_some, pI, cond_false, PySem.W.dataLt_tuple, PySem.W.dataLt_list]
theorem le_int (a b : Int) : leD (.int a) (.int b) = decide (a ≤ b) := by
  have h := congrFun (congrFun (PySem.W.dataLe_int (fun x : Int => x)) a) b
  rw [← h]
  simp only [leD, pyD, PySem.W.dataLe_eq, py_int, Option.getD_some, cond_false]
theorem alike_ints : ∀ xs ys : List Int, PySem.W.alikeAll (xs.map .int) (ys.map .int) = true
  | [], ys => by cases ys <;> simp [PySem.W.alikeAll]
  | _ :: _, [] => by simp [PySem.W.alikeAll]
  | x :: xs, y :: ys => by simp [PySem.W.alikeAll, PySem.W.alike, alike_ints xs ys]
theorem sortOk_rows (xs : List (List Int)) : sortOk (xs.map tR) = true := by
  unfold sortOk
  simp only [List.all_map, List.all_eq_true, Function.comp, Bool.and_eq_true]
  intro x _
  refine ⟨plain_tR x, fun y _ => ?_⟩
  simp [pyD, py_tR, pI, PySem.W.alike, alike_ints]; rfl
theorem sortOk_ints (xs : List Int) : sortOk (xs.map .int) = true := by
  unfold sortOk
  simp only [List.all_map, List.all_eq_true, Function.comp, Bool.and_eq_true]
  intro x _
  refine ⟨plain_i x, fun y _ => ?_⟩
  simp [pyD, py_int, PySem.W.alike]
def sortR (xs : List (List Int)) : List (List Int) := xs.mergeSort fun a b => decide (a ≤ b)
def sortI (xs : List Int) : List Int := xs.mergeSort fun a b => decide (a ≤ b)
@[simp] theorem sortD_rows (xs : List (List Int)) : sortD (xs.map tR) = some ((sortR xs).map tR) := by
  rw [sortD, sortOk_rows, if_pos rfl, sortR, List.map_mergeSort fun a _ b _ => (le_tR a b).symm]
@[simp] theorem sortD_ints (xs : List Int) : sortD (xs.map .int) = some ((sortI xs).map .int) := by
  rw [sortD, sortOk_ints, if_pos rfl, sortI, List.map_mergeSort fun a _ b _ => (le_int a b).symm]
@[simp] theorem intsD_map : ∀ xs : List Int, intsD (xs.map .int) = some xs
  | [] => rfl
  | x :: xs => by simp [intsD, intsD_map xs]
@[simp] theorem boolsD_map : ∀ xs : List Bool, boolsD (xs.map .bl) = some xs
  | [] => rfl
  | x :: xs => by simp [boolsD, boolsD_map xs]
@[simp] theorem derefD_tR (st : List SO) (xs : List Int) : derefD st (tR xs) = some (tR xs) := rfl
@[simp] theorem derefD_int (st : List SO) (i : Int) : derefD st (.int i) = some (.int i) := rfl
@[simp] theorem derefD_bl (st : List SO) (i : Bool) : derefD st (.bl i) = some (.bl i) := rfl
@[simp] theorem derefD_non (st : List SO) : derefD st .non = some .non := rfl
@[simp] theorem derefD_tup (st : List SO) (xs : List D) : derefD st (.tup xs) = some (.tup xs) := rfl
@[simp] theorem derefD_lst (st : List SO) (xs : List D) : derefD st (.lst xs) = some (.lst xs) := rfl
@[simp] theorem rdH_now (S : Sg) (d : D) : rdH S (.now d) = derefD S.st d := rfl
@[simp] theorem rdH_slot (S : Sg) (i : Nat) : rdH S (.slot i) = match S.env[i]? with
  | some (.val d) => derefD S.st d
  | some (.own m) => some m.frz
  | _ => none := rfl
@[simp] theorem rdHs_nil (S : Sg) : rdHs S [] = some [] := rfl
@[simp] theorem rdHs_cons (S : Sg) (h : Hd) (hs : List Hd) : rdHs S (h :: hs) = match rdH S h, rdHs S hs with
  | some d, some ds => some (d :: ds)
  | _, _ => none := rfl
@[simp] theorem tup0 : D.tup [] = tR [] := rfl
@[simp] theorem tup1 (x : Int) : D.tup [.int x] = tR [x] := rfl
@[simp] theorem idxD_tR (xs : List Int) (i : Int) : idxD (tR xs) (.int i) = (atI xs i).map .int := by
  unfold tR idxD atI ixN
  simp only [List.length_map]
  split
  · split <;> simp [List.getElem?_map]
  · split <;> simp [List.getElem?_map]
@[simp] theorem add_tR (xs ys : List Int) : binD .add (tR xs) (tR ys) = if xs.length + ys.length ≤ LIM then some (.val (tR (xs ++ ys))) else none := by
  simp [binD, tR]
@[simp] theorem len_tR (xs : List Int) : bifD .len [tR xs] = some (.val (.int xs.length)) := by simp [bifD, tR]
@[simp] theorem items_tR (xs : List Int) : itemsD (tR xs) = some (xs.map .int) := rfl
@[simp] theorem isi_tR (xs : List Int) : isiD (tR xs) .tuple = some true := rfl
@[simp] theorem in_tR (i : Int) (xs : List Int) : cmpD .isIn (.int i) (tR xs) = some (decide (i ∈ xs)) := memD_int i xs
@[simp] theorem notin_tR (i : Int) (xs : List Int) : cmpD .notIn (.int i) (tR xs) = some (!decide (i ∈ xs)) := by
  show (memD (.int i) (xs.map .int)).map (!·) = _
  rw [memD_int]; rfl
@[simp] theorem in_rows (x : List Int) (xs : List (List Int)) : cmpD .isIn (tR x) (.tup (xs.map tR)) = some (decide (x ∈ xs)) := memD_tR x xs
@[simp] theorem cmp_eq (a b : D) : cmpD .eq a b = eqD a b := by cases a <;> rfl
@[simp] theorem cmp_ne (a b : D) : cmpD .ne a b = (eqD a b).map (!·) := by cases a <;> rfl
@[simp] theorem at_rows (xs : List (List Int)) (i : Int) : idxD (.tup (xs.map tR)) (.int i) = (atI xs i).map tR := by
  unfold idxD atI ixN
  simp only [List.length_map]
  split
  · split <;> simp [List.getElem?_map]
  · split <;> simp [List.getElem?_map]
@[simp] theorem opt_ok {α : Type} (a : α) (S : Sg) : Out.opt (some a) S = .ok a S := rfl
theorem at_nat {α : Type} {xs : List α} {i : Nat} {x : α} (h : xs[i]? = some x) : atI xs (i : Int) = some x := by
  have hl := (List.getElem?_eq_some_iff.mp h).1
  unfold atI ixN
  simp [hl]
  simpa [hl] using h
end Tk
namespace Tk
open PySem L2
/-- the test and the element of a turn -/
def lcV (cond : Option (Sg → Out Rv)) (elt : Sg → Out Rv) (S : Sg) : Out (Option D) := match cond with
  | none => (elt S).bind fun r S' => .ok (some r.frz) S'
  | some c => (c S).bind fun r S' => match r with
    | .val (.bl true) => (elt S').bind fun r S' => .ok (some r.frz) S'
    | .val (.bl false) => .ok none S'
    | _ => .no
theorem lc1_loop {Φ : Fns} {cond : Option E} {elt : E} {env : List Slot} {v : Nat} (hv : v < env.length) {ok : Sg → Bool} (I : List SO → Prop) {α : Type} (g : α → D) (f : α → Option D) :
    ∀ (items : List α) (acc : List D) (e0 : List Slot) (st : List SO), I st → e0.set v .no = env.set v .no → (∀ x ∈ items, ∀ st, I st → ∃ st', lcV (evC Φ cond) (evX Φ elt) ⟨env.set v (.val (g x)), st⟩ = .ok (f x) ⟨env.set v (.val (g x)), st'⟩ ∧ ok ⟨env.set v (.val (g x)), st'⟩ = true ∧ I st') →
    ∃ e' st', lcLoop (lcTurn [v] [v] (evC Φ cond) (evX Φ elt)) ok (items.map g) acc ⟨e0, st⟩ = .ok (acc ++ items.filterMap f) ⟨e', st'⟩ ∧ e'.set v .no = env.set v .no ∧ I st'
  | [], acc, e0, st, h, ho, _ => ⟨e0, st, by simp [lcLoop], ho, h⟩
  | x :: xs, acc, e0, st, h, ho, hs => by
    obtain ⟨st1, q1, q2, q3⟩ := hs x List.mem_cons_self st h
    obtain ⟨e2, st2, r1, r2, r3⟩ := lc1_loop hv I g f xs (acc ++ (f x).toList) (env.set v (.val (g x))) st1 q3 (by rw [List.set_set]) fun y hy => hs y (List.mem_cons_of_mem _ hy)
    refine ⟨e2, st2, ?_, r2, r3⟩
    have e : setTg (wipeE e0 [v]) [v] (g x) = some (env.set v (.val (g x))) := by
      show some ((e0.set v .no).set v (.val (g x))) = _
      rw [ho, List.set_set]
    have t : lcTurn [v] [v] (evC Φ cond) (evX Φ elt) (g x) ⟨e0, st⟩ = .ok (f x) ⟨env.set v (.val (g x)), st1⟩ := by
      rw [← q1]
      unfold lcTurn lcV
      simp only [e]
      try rfl
    simp only [List.map_cons, lcLoop, t, q2, if_true, r1]
    congr 1
    cases h : f x <;> simp [List.filterMap_cons, h]
theorem x_lc1 {Φ : Fns} {cond : Option E} {elt it : E} {rg : Bool} {v : Nat} {S : Sg} {h : Hd} {d : D} {α : Type} {items : List α} {g : α → D} (I : List SO → Prop) (f : α → Option D) (hI : I S.st) (hh : hd it (evX Φ it) S = .ok h S) (hs : srcOf rg h S = some (d, items.map g))
    (hno : (notOwn S.env [v] && srcOut [v] h) = true) (step : ∀ x ∈ items, ∀ st, I st → ∃ st', lcV (evC Φ cond) (evX Φ elt) ⟨S.env.set v (.val (g x)), st⟩ = .ok (f x) ⟨S.env.set v (.val (g x)), st'⟩ ∧ stillSrc rg h d ⟨S.env.set v (.val (g x)), st'⟩ = true ∧ I st') :
    ∃ st', evX Φ (.lc [v] elt [v] rg it cond) S = .ok (.own (.lst (items.filterMap f))) ⟨S.env, st'⟩ ∧ I st' := by
  have hv : v < S.env.length := by
    rw [Bool.and_eq_true] at hno
    have := List.all_eq_true.mp hno.1 v (List.mem_singleton.mpr rfl)
    by_cases c : v < S.env.length
    · exact c
    · rw [List.getElem?_eq_none (by omega)] at this; cases this
  obtain ⟨e', st', r1, r2, r3⟩ := lc1_loop hv I g f items [] S.env S.st hI rfl step
  refine ⟨st', ?_, r3⟩
  rw [x_lc, hh]
  simp only [Out.bind_ok, hs]
  rw [if_pos hno, r1]
  simp only [Out.bind_ok, List.nil_append]
  congr 2
  show e'.set v (S.env.getD v .no) = S.env
  have : e'.set v (S.env.getD v .no) = (e'.set v .no).set v (S.env.getD v .no) := by rw [List.set_set]
  rw [this, r2, List.set_set]
  apply List.ext_getElem?
  intro j
  by_cases z : v = j
  · subst z
    rw [List.getElem?_set_self hv, List.getD_eq_getElem?_getD, List.getElem?_eq_getElem hv]; rfl
  · rw [List.getElem?_set_ne z]
/-- .. that leaves the store alone -/
theorem x_lcP {Φ : Fns} {cond : Option E} {elt it : E} {rg : Bool} {v : Nat} {S : Sg} {h : Hd} {d : D} {α : Type} {items : List α} {g : α → D} (f : α → Option D) (hh : hd it (evX Φ it) S = .ok h S) (hs : srcOf rg h S = some (d, items.map g))
    (hno : (notOwn S.env [v] && srcOut [v] h) = true) (step : ∀ x ∈ items, lcV (evC Φ cond) (evX Φ elt) ⟨S.env.set v (.val (g x)), S.st⟩ = .ok (f x) ⟨S.env.set v (.val (g x)), S.st⟩ ∧ stillSrc rg h d ⟨S.env.set v (.val (g x)), S.st⟩ = true) :
    evX Φ (.lc [v] elt [v] rg it cond) S = .ok (.own (.lst (items.filterMap f))) S := by
  obtain ⟨st', e, rfl⟩ := x_lc1 (fun st => st = S.st) f rfl hh hs hno fun x hx st h => ⟨S.st, by subst h; exact (step x hx).1, (step x hx).2, rfl⟩
  exact e
@[simp] theorem v_none (elt : Sg → Out Rv) (S : Sg) : lcV none elt S = (elt S).bind fun r S' => .ok (some r.frz) S' := rfl
@[simp] theorem v_some (c elt : Sg → Out Rv) (S : Sg) : lcV (some c) elt S = (c S).bind fun r S' => match r with
    | .val (.bl true) => (elt S').bind fun r S' => .ok (some r.frz) S'
    | .val (.bl false) => .ok none S'
    | _ => .no := rfl
@[simp] theorem c_none {Φ : Fns} : evC Φ none = none := by simp only [evC]
@[simp] theorem c_some {Φ : Fns} (e : E) : evC Φ (some e) = some (evX Φ e) := by simp only [evC]
theorem still_slot {j : Nat} {d : D} {env : List Slot} {st : List SO} (h : rdH ⟨env, st⟩ (.slot j) = some d) : stillSrc false (.slot j) d ⟨env, st⟩ = true := by
  unfold stillSrc
  rw [Bool.false_or]
  exact still_refl h
theorem still_now {d e : D} {env : List Slot} {st : List SO} (h : derefD st e = some d) : stillSrc false (.now e) d ⟨env, st⟩ = true := by
  unfold stillSrc
  rw [Bool.false_or]
  exact still_refl h
end Tk
namespace Ms
theorem sub_len {α : Type} [DecidableEq α] : ∀ {l1 l2 : List α}, l1.Nodup → (∀ x ∈ l1, x ∈ l2) → l1.length ≤ l2.length
  | [], l2, _, _ => Nat.zero_le _
  | x :: xs, l2, h, s => by
    have hx := s x List.mem_cons_self
    have hn := List.nodup_cons.mp h
    have := sub_len (l1 := xs) (l2 := l2.erase x) hn.2 fun y hy => (List.mem_erase_of_ne (fun z => hn.1 (by rw [← z]; exact hy))).mpr (s y (List.mem_cons_of_mem _ hy))
    rw [List.length_erase_of_mem hx] at this
    have := List.length_pos_of_mem hx
    simp only [List.length_cons]; omega
theorem filter_split {α : Type} (p : α → Bool) : ∀ l : List α, (l.filter p).length + (l.filter fun x => !p x).length = l.length
  | [] => rfl
  | x :: xs => by
    have := filter_split p xs
    cases h : p x <;> simp [List.filter_cons, h] <;> omega
abbrev Gs := List (List Int)
abbrev Hs := List (Nat × Int)
def Nb (gs : Gs) (x : Int) (a : Nat) : Prop := ∃ g, gs[a]? = some g ∧ x ∈ g
instance (gs : Gs) (x : Int) (a : Nat) : Decidable (Nb gs x a) := by
  unfold Nb
  cases h : gs[a]? with
  | none => exact isFalse (by simp)
  | some g => exact decidable_of_iff (x ∈ g) (by simp)
/-- how many groups meet the things -/
def met (gs : Gs) (xs : List Int) : Nat := (gs.filter fun g => xs.any fun x => decide (x ∈ g)).length
def metIx (gs : Gs) (xs : List Int) : List Nat := (List.range gs.length).filter fun a => xs.any fun x => decide (Nb gs x a)
theorem met_ix (gs : Gs) (xs : List Int) : (metIx gs xs).length = met gs xs := by
  unfold metIx met
  induction gs with
  | nil => rfl
  | cons g gs ih =>
    rw [List.length_cons, List.range_succ_eq_map, List.filter_cons, List.filter_map, List.filter_cons]
    have e1 : (fun a => xs.any fun x => decide (Nb (g :: gs) x a)) ∘ Nat.succ = fun a => xs.any fun x => decide (Nb gs x a) := by
      funext a
      congr 1
    have e0 : (xs.any fun x => decide (Nb (g :: gs) x 0)) = xs.any fun x => decide (x ∈ g) := by
      congr 1
      funext x
      simp [Nb]
    rw [e1, e0]
    split <;> simp [ih]
theorem met_nodup (gs : Gs) (xs : List Int) : (metIx gs xs).Nodup := List.filter_sublist.nodup List.nodup_range
theorem mem_metIx {gs : Gs} {xs : List Int} {a : Nat} : a ∈ metIx gs xs ↔ ∃ x ∈ xs, Nb gs x a := by
  unfold metIx
  rw [List.mem_filter, List.mem_range, List.any_eq_true]
  constructor
  · rintro ⟨_, x, hx, h⟩
    exact ⟨x, hx, of_decide_eq_true h⟩
  · rintro ⟨x, hx, h⟩
    refine ⟨?_, x, hx, decide_eq_true h⟩
    obtain ⟨g, hg, _⟩ := h
    exact (List.getElem?_eq_some_iff.mp hg).1
/-- every part meets enough groups -/
def Hall (gs : Gs) (xs : List Int) : Prop := ∀ ys : List Int, ys.Nodup → (∀ y ∈ ys, y ∈ xs) → ys.length ≤ met gs ys
structure Valid (gs : Gs) (h : Hs) : Prop where
  keys : (h.map (·.1)).Nodup
  nb : ∀ p ∈ h, Nb gs p.2 p.1
def Closed (gs : Gs) (h : Hs) (R : List Nat) : Prop := ∀ a ∈ R, ∃ z, (a, z) ∈ h ∧ ∀ b, Nb gs z b → b ∈ R
theorem closed_app {gs : Gs} {h : Hs} {R R' : List Nat} (a : Closed gs h R) (b : Closed gs h R') : Closed gs h (R ++ R') := fun x hx => by
  rcases List.mem_append.mp hx with z | z
  · obtain ⟨u, h1, h2⟩ := a x z
    exact ⟨u, h1, fun b q => List.mem_append_left _ (h2 b q)⟩
  · obtain ⟨u, h1, h2⟩ := b x z
    exact ⟨u, h1, fun b q => List.mem_append_right _ (h2 b q)⟩
/-- what sits, sits well -/
theorem hall_of {gs : Gs} {h : Hs} (V : Valid gs h) {xs : List Int} (hx : ∀ x ∈ xs, x ∈ h.map (·.2)) : Hall gs xs := by
  intro ys hn hy
  rw [← met_ix]
  let h' := h.filter fun p => decide (p.1 ∈ metIx gs ys)
  have h1 : ys.length ≤ (h'.map (·.2)).length := sub_len hn fun y q => by
    obtain ⟨p, hp, e⟩ := List.mem_map.mp (hx y (hy y q))
    refine List.mem_map.mpr ⟨p, List.mem_filter.mpr ⟨hp, decide_eq_true ?_⟩, e⟩
    exact mem_metIx.mpr ⟨y, q, by rw [← e]; exact V.nb p hp⟩
  have h2 : (h'.map (·.1)).length ≤ (metIx gs ys).length := sub_len ((List.filter_sublist.map _).nodup V.keys) fun a q => by
    obtain ⟨p, hp, e⟩ := List.mem_map.mp q
    have := (List.mem_filter.mp hp).2
    rw [← e]; exact of_decide_eq_true this
  rw [List.length_map] at h1 h2
  omega
/-- no Hall set is greater than what sits, if the others are shut in -/
theorem hall_le {gs : Gs} {h : Hs} (V : Valid gs h) {R : List Nat} (C : Closed gs h R) {ws : List Int} (hn : ws.Nodup) (hw : Hall gs ws) (hs : ∀ w ∈ ws, w ∈ h.map (·.2) ∨ ∀ b, Nb gs w b → b ∈ R) : ws.length ≤ h.length := by
  let q : Int → Bool := fun x => decide (∀ b ∈ List.range gs.length, Nb gs x b → b ∈ R)
  have qs : ∀ x, q x = true ↔ ∀ b, Nb gs x b → b ∈ R := fun x => by
    simp only [q, decide_eq_true_eq]
    constructor
    · intro k b hb
      refine k b (List.mem_range.mpr ?_) hb
      obtain ⟨g, hg, _⟩ := hb
      exact (List.getElem?_eq_some_iff.mp hg).1
    · exact fun k b _ hb => k b hb
  have f1 := filter_split q ws
  have f2 := filter_split (fun p : Nat × Int => decide (p.1 ∈ R)) h
  have a1 : (ws.filter q).length ≤ (h.filter fun p => decide (p.1 ∈ R)).length := by
    have b1 := hw (ws.filter q) (List.filter_sublist.nodup hn) fun y hy => (List.mem_filter.mp hy).1
    rw [← met_ix] at b1
    have b2 : (metIx gs (ws.filter q)).length ≤ ((h.filter fun p => decide (p.1 ∈ R)).map (·.1)).length := sub_len (met_nodup _ _) fun a ha => by
      obtain ⟨x, hx, hb⟩ := mem_metIx.mp ha
      have hR := (qs x).mp (List.mem_filter.mp hx).2 a hb
      obtain ⟨z, hz, _⟩ := C a hR
      exact List.mem_map.mpr ⟨(a, z), List.mem_filter.mpr ⟨hz, decide_eq_true hR⟩, rfl⟩
    rw [List.length_map] at b2
    omega
  have a2 : (ws.filter fun x => !q x).length ≤ (h.filter fun p => !decide (p.1 ∈ R)).length := by
    have b2 : (ws.filter fun x => !q x).length ≤ ((h.filter fun p => !decide (p.1 ∈ R)).map (·.2)).length := sub_len (List.filter_sublist.nodup hn) fun x hx => by
      obtain ⟨hx1, hx2⟩ := List.mem_filter.mp hx
      have nq : ¬ ∀ b, Nb gs x b → b ∈ R := fun k => by
        rw [(qs x).mpr k] at hx2; cases hx2
      rcases hs x hx1 with k | k
      · obtain ⟨p, hp, e⟩ := List.mem_map.mp k
        refine List.mem_map.mpr ⟨p, List.mem_filter.mpr ⟨hp, ?_⟩, e⟩
        simp only [Bool.not_eq_true', decide_eq_false_iff_not]
        intro hR
        obtain ⟨z, hz, hc⟩ := C p.1 hR
        have : z = p.2 := by
          have u : ∀ (l : Hs), (l.map (·.1)).Nodup → ∀ (a : Nat) (x y : Int), (a, x) ∈ l → (a, y) ∈ l → x = y := by
            intro l
            induction l with
            | nil => intro _ a x y h; cases h
            | cons c l ih =>
              intro hn a x y hx hy
              have hn' := List.nodup_cons.mp hn
              rcases List.mem_cons.mp hx with e1 | e1 <;> rcases List.mem_cons.mp hy with e2 | e2
              · rw [← e1] at e2; cases e2; rfl
              · subst e1; exact absurd (List.mem_map.mpr ⟨_, e2, rfl⟩) hn'.1
              · subst e2; exact absurd (List.mem_map.mpr ⟨_, e1, rfl⟩) hn'.1
              · exact ih hn'.2 a x y e1 e2
          exact u h V.keys p.1 z p.2 hz hp
        subst this
        rw [e] at hc
        exact nq hc
      · exact absurd k nq
    rw [List.length_map] at b2
    exact b2
  omega
end Ms
namespace Ms
def putH (h : Hs) (a : Nat) (t : Int) : Hs := if a ∈ h.map (·.1) then h.map (fun p => if p.1 = a then (a, t) else p) else h ++ [(a, t)]
def out (s : List Nat) (h : Hs) : List (Nat × Int) := h.filter fun p => decide (p.1 ∉ s)
theorem mem_out {s : List Nat} {h : Hs} {p : Nat × Int} : p ∈ out s h ↔ p ∈ h ∧ p.1 ∉ s := by simp [out]
theorem key_eq {h : Hs} (hn : (h.map (·.1)).Nodup) {a : Nat} {x y : Int} (hx : (a, x) ∈ h) (hy : (a, y) ∈ h) : x = y := by
  induction h with
  | nil => cases hx
  | cons c l ih =>
    have hn' := List.nodup_cons.mp hn
    rcases List.mem_cons.mp hx with e1 | e1 <;> rcases List.mem_cons.mp hy with e2 | e2
    · rw [← e1] at e2; cases e2; rfl
    · subst e1; exact absurd (List.mem_map.mpr ⟨_, e2, rfl⟩) hn'.1
    · subst e2; exact absurd (List.mem_map.mpr ⟨_, e1, rfl⟩) hn'.1
    · exact ih hn'.2 e1 e2
theorem nodup_of_keys {h : Hs} (hn : (h.map (·.1)).Nodup) : h.Nodup := by
  induction h with
  | nil => exact List.nodup_nil
  | cons c l ih =>
    have hn' := List.nodup_cons.mp hn
    exact List.nodup_cons.mpr ⟨fun z => hn'.1 (List.mem_map.mpr ⟨c, z, rfl⟩), ih hn'.2⟩
theorem put_keys (h : Hs) (a : Nat) (t : Int) : (putH h a t).map (·.1) = if a ∈ h.map (·.1) then h.map (·.1) else h.map (·.1) ++ [a] := by
  unfold putH
  by_cases c : a ∈ h.map (·.1)
  · rw [if_pos c, if_pos c, List.map_map]
    apply List.map_congr_left
    intro p _
    simp only [Function.comp]
    split
    · rename_i e; exact e.symm
    · rfl
  · rw [if_neg c, if_neg c, List.map_append]; rfl
theorem put_nodup {h : Hs} (hn : (h.map (·.1)).Nodup) (a : Nat) (t : Int) : ((putH h a t).map (·.1)).Nodup := by
  rw [put_keys]
  split
  · exact hn
  · rename_i c
    rw [List.nodup_append]
    exact ⟨hn, by simp, fun x hx y hy z => by subst z; cases List.mem_singleton.mp hy; exact c hx⟩
theorem mem_put {h : Hs} {a : Nat} {t : Int} {p : Nat × Int} : p ∈ putH h a t ↔ p = (a, t) ∨ (p ∈ h ∧ p.1 ≠ a) := by
  unfold putH
  by_cases c : a ∈ h.map (·.1)
  · rw [if_pos c, List.mem_map]
    constructor
    · rintro ⟨q, hq, e⟩
      split at e
      · exact .inl e.symm
      · rename_i hne; subst e; exact .inr ⟨hq, hne⟩
    · rintro (e | ⟨hq, hne⟩)
      · obtain ⟨q, hq, e2⟩ := List.mem_map.mp c
        exact ⟨q, hq, by rw [if_pos e2, e]⟩
      · exact ⟨p, hq, by rw [if_neg hne]⟩
  · rw [if_neg c, List.mem_append, List.mem_singleton]
    constructor
    · rintro (q | q)
      · exact .inr ⟨q, fun z => c (List.mem_map.mpr ⟨p, q, z⟩)⟩
      · exact .inl q
    · rintro (q | q)
      · exact .inr q
      · exact .inl q.1
theorem put_valid {gs : Gs} {h : Hs} (V : Valid gs h) {a : Nat} {t : Int} (hb : Nb gs t a) : Valid gs (putH h a t) where
  keys := put_nodup V.keys a t
  nb := fun p hp => by
    rcases mem_put.mp hp with e | ⟨q, _⟩
    · subst e; exact hb
    · exact V.nb p q
theorem out_nodup {h : Hs} (hn : (h.map (·.1)).Nodup) (s : List Nat) : (out s h).Nodup := List.filter_sublist.nodup (nodup_of_keys hn)
/-- who sits outside s -/
def held (s : List Nat) (h : Hs) : List Int := (out s h).map (·.2)
theorem held_put {h : Hs} (hn : (h.map (·.1)).Nodup) {a : Nat} {t : Int} {s : List Nat} (ha : a ∉ s) : (held s (putH h a t)).Perm (t :: held (a :: s) h) := by
  have q : (out s (putH h a t)).Perm ((a, t) :: out (a :: s) h) := by
    rw [List.perm_ext_iff_of_nodup (out_nodup (put_nodup hn a t) s) (List.nodup_cons.mpr ⟨fun z => (mem_out.mp z).2 List.mem_cons_self, out_nodup hn _⟩)]
    intro p
    rw [mem_out, mem_put, List.mem_cons, mem_out]
    constructor
    · rintro ⟨e | ⟨q, hne⟩, hs⟩
      · exact .inl e
      · exact .inr ⟨q, fun z => by rcases List.mem_cons.mp z with z | z; exact hne z; exact hs z⟩
    · rintro (e | ⟨q, hs⟩)
      · subst e; exact ⟨.inl rfl, ha⟩
      · exact ⟨.inr ⟨q, fun z => hs (by rw [z]; exact List.mem_cons_self)⟩, fun z => hs (List.mem_cons_of_mem _ z)⟩
  exact q.map _
theorem held_free {h : Hs} {a : Nat} {s : List Nat} (ha : a ∉ h.map (·.1)) : held (a :: s) h = held s h := by
  unfold held out
  congr 1
  apply List.filter_congr
  intro p hp
  have : p.1 ≠ a := fun z => ha (List.mem_map.mpr ⟨p, hp, z⟩)
  simp [this]
theorem held_at {h : Hs} (hn : (h.map (·.1)).Nodup) {a : Nat} {z : Int} {s : List Nat} (ha : a ∉ s) (hz : (a, z) ∈ h) : (held s h).Perm (z :: held (a :: s) h) := by
  have q : (out s h).Perm ((a, z) :: out (a :: s) h) := by
    rw [List.perm_ext_iff_of_nodup (out_nodup hn s) (List.nodup_cons.mpr ⟨fun z => (mem_out.mp z).2 List.mem_cons_self, out_nodup hn _⟩)]
    intro p
    rw [mem_out, List.mem_cons, mem_out]
    constructor
    · rintro ⟨q, hs⟩
      by_cases e : p.1 = a
      · left
        obtain ⟨b, y⟩ := p
        cases e
        rw [key_eq hn q hz]
      · exact .inr ⟨q, fun w => by rcases List.mem_cons.mp w with w | w; exact e w; exact hs w⟩
    · rintro (e | ⟨q, hs⟩)
      · subst e; exact ⟨hz, ha⟩
      · exact ⟨q, fun w => hs (List.mem_cons_of_mem _ w)⟩
  exact q.map _
/-- the same beyond a greater set -/
theorem held_more {h h2 : Hs} (hn : (h.map (·.1)).Nodup) (hn2 : (h2.map (·.1)).Nodup) {s s2 : List Nat} (hs : ∀ a ∈ s, a ∈ s2) {z : Int} (same : ∀ p : Nat × Int, p.1 ∈ s2 → (p ∈ h2 ↔ p ∈ h)) (q : (held s2 h2).Perm (z :: held s2 h)) : (held s h2).Perm (z :: held s h) := by
  have sp : ∀ g : Hs, (g.map (·.1)).Nodup → (held s g).Perm (held s2 g ++ ((g.filter fun p => decide (p.1 ∈ s2 ∧ p.1 ∉ s)).map (·.2))) := fun g hg => by
    unfold held
    rw [← List.map_append]
    refine List.Perm.map _ ?_
    rw [List.perm_ext_iff_of_nodup (out_nodup hg s)]
    · intro p
      rw [mem_out, List.mem_append, mem_out, List.mem_filter, decide_eq_true_eq]
      constructor
      · rintro ⟨h1, h2⟩
        by_cases c : p.1 ∈ s2
        · exact .inr ⟨h1, c, h2⟩
        · exact .inl ⟨h1, c⟩
      · rintro (⟨h1, h2⟩ | ⟨h1, h2, h3⟩)
        · exact ⟨h1, fun w => h2 (hs _ w)⟩
        · exact ⟨h1, h3⟩
    · rw [List.nodup_append]
      refine ⟨out_nodup hg _, List.filter_sublist.nodup (nodup_of_keys hg), fun x hx y hy e => ?_⟩
      subst e
      have h1 := (List.mem_filter.mp hy).2
      rw [decide_eq_true_eq] at h1
      exact (mem_out.mp hx).2 h1.1
  have sm : (h2.filter fun p => decide (p.1 ∈ s2 ∧ p.1 ∉ s)).Perm (h.filter fun p => decide (p.1 ∈ s2 ∧ p.1 ∉ s)) := by
    rw [List.perm_ext_iff_of_nodup (List.filter_sublist.nodup (nodup_of_keys hn2)) (List.filter_sublist.nodup (nodup_of_keys hn))]
    intro p
    rw [List.mem_filter, List.mem_filter, decide_eq_true_eq]
    exact ⟨fun ⟨a, b, c⟩ => ⟨(same p b).mp a, b, c⟩, fun ⟨a, b, c⟩ => ⟨(same p b).mpr a, b, c⟩⟩
  exact (sp h2 hn2).trans ((q.append (sm.map _)).trans ((sp h hn).symm.cons z))

structure Seen (gs : Gs) (s : List Nat) : Prop where
  nd : s.Nodup
  lt : ∀ a ∈ s, a < gs.length
theorem Seen.len {gs : Gs} {s : List Nat} (h : Seen gs s) : s.length ≤ gs.length := by
  have := sub_len (l2 := List.range gs.length) h.nd fun a ha => List.mem_range.mpr (h.lt a ha)
  rwa [List.length_range] at this
theorem Seen.add {gs : Gs} {s : List Nat} (h : Seen gs s) {a : Nat} (ha : a < gs.length) (hn : a ∉ s) : Seen gs (s ++ [a]) where
  nd := by
    rw [List.nodup_append]
    exact ⟨h.nd, by simp, fun x hx y hy z => by subst z; cases List.mem_singleton.mp hy; exact hn hx⟩
  lt := fun b hb => by
    rcases List.mem_append.mp hb with z | z
    · exact h.lt b z
    · cases List.mem_singleton.mp z; exact ha
structure Post (gs : Gs) (t : Int) (h : Hs) (s : List Nat) (b : Bool) (h' : Hs) (s' : List Nat) : Prop where
  v : Valid gs h'
  sn : Seen gs s'
  sub : ∀ a ∈ s, a ∈ s'
  yes : b = true → (held s h').Perm (t :: held s h) ∧ (∀ p : Nat × Int, p.1 ∈ s → (p ∈ h' ↔ p ∈ h)) ∧ ∀ R, Closed gs h R → ∀ p : Nat × Int, p.1 ∈ R → (p ∈ h' ↔ p ∈ h)
  no : b = false → h' = h ∧ (∀ a, Nb gs t a → a ∈ s') ∧ ∀ a ∈ s', a ∈ s ∨ ∃ z, (a, z) ∈ h ∧ ∀ c, Nb gs z c → c ∈ s'
  shut : ∀ R, Closed gs h R → (∀ c, Nb gs t c → c ∈ R) → b = false
structure Lp (gs : Gs) (t : Int) (h : Hs) (s : List Nat) (i : Nat) (c : List Nat) : Prop where
  sn : Seen gs c
  sub : ∀ a ∈ s, a ∈ c
  all : ∀ a, a < i → Nb gs t a → a ∈ c
  cl : ∀ a ∈ c, a ∈ s ∨ ∃ z, (a, z) ∈ h ∧ ∀ b, Nb gs z b → b ∈ c
  len : s.length ≤ c.length
section
variable {gs : Gs} {t : Int} {h : Hs} {s c : List Nat} {i : Nat}
theorem Lp.init (S : Seen gs s) : Lp gs t h s 0 s := ⟨S, fun _ h => h, fun _ h => absurd h (Nat.not_lt_zero _), fun _ h => .inl h, Nat.le_refl _⟩
theorem Lp.skip (L : Lp gs t h s i c) (n : ¬ (Nb gs t i ∧ i ∉ c)) : Lp gs t h s (i + 1) c :=
  ⟨L.sn, L.sub, fun a ha hb => by
    by_cases e : a = i
    · subst e
      by_cases k : a ∈ c
      · exact k
      · exact absurd ⟨hb, k⟩ n
    · exact L.all a (by omega) hb, L.cl, L.len⟩
theorem Lp.fail (L : Lp gs t h s i c) {z : Int} (hz : (i, z) ∈ h) {h2 : Hs} {s2 : List Nat} (P : Post gs z h (c ++ [i]) false h2 s2) : h2 = h ∧ Lp gs t h s (i + 1) s2 := by
  obtain ⟨e, n1, n2⟩ := P.no rfl
  refine ⟨e, P.sn, fun a ha => P.sub a (List.mem_append_left _ (L.sub a ha)), fun a ha hb => ?_, fun a ha => ?_, ?_⟩
  · by_cases k : a = i
    · subst k; exact P.sub _ (List.mem_append_right _ (List.mem_singleton.mpr rfl))
    · exact P.sub a (List.mem_append_left _ (L.all a (by omega) hb))
  · rcases n2 a ha with k | k
    · rcases List.mem_append.mp k with k | k
      · rcases L.cl a k with k | ⟨y, k1, k2⟩
        · exact .inl k
        · exact .inr ⟨y, k1, fun b hb => P.sub b (List.mem_append_left _ (k2 b hb))⟩
      · cases List.mem_singleton.mp k
        exact .inr ⟨z, hz, n1⟩
    · exact .inr k
  · have h1 := sub_len L.sn.nd (l2 := s2) fun a ha => P.sub a (List.mem_append_left _ ha)
    have := L.len
    omega
theorem Lp.done (L : Lp gs t h s gs.length c) (V : Valid gs h) : Post gs t h s false h c :=
  ⟨V, L.sn, L.sub, fun e => (by cases e), fun _ => ⟨rfl, fun a hb => L.all a (by obtain ⟨g, hg, _⟩ := hb; exact (List.getElem?_eq_some_iff.mp hg).1) hb, L.cl⟩, fun _ _ _ => rfl⟩
theorem Lp.free (L : Lp gs t h s i c) (V : Valid gs h) (hb : Nb gs t i) (hi : i ∉ c) (hf : i ∉ h.map (·.1)) : Post gs t h s true (putH h i t) (c ++ [i]) := by
  have hl : i < gs.length := by obtain ⟨g, hg, _⟩ := hb; exact (List.getElem?_eq_some_iff.mp hg).1
  have his : i ∉ s := fun z => hi (L.sub i z)
  have nR : ∀ R, Closed gs h R → i ∉ R := fun R C z => by
    obtain ⟨y, hy, _⟩ := C i z
    exact hf (List.mem_map.mpr ⟨_, hy, rfl⟩)
  have same : ∀ p : Nat × Int, p.1 ≠ i → (p ∈ putH h i t ↔ p ∈ h) := fun p hp => by
    rw [mem_put]
    exact ⟨fun k => k.elim (fun e => absurd (by rw [e]) hp) (·.1), fun k => .inr ⟨k, hp⟩⟩
  refine ⟨put_valid V hb, L.sn.add hl hi, fun a ha => List.mem_append_left _ (L.sub a ha), fun _ => ⟨?_, fun p hp => same p fun z => his (by rw [← z]; exact hp), fun R C p hp => same p fun z => nR R C (by rw [← z]; exact hp)⟩, fun e => (by cases e), fun R C k => absurd (k i hb) (nR R C)⟩
  have := held_put V.keys (t := t) his
  rwa [held_free hf] at this
theorem Lp.shift (L : Lp gs t h s i c) (V : Valid gs h) (hb : Nb gs t i) (hi : i ∉ c) {z : Int} (hz : (i, z) ∈ h) {h2 : Hs} {s2 : List Nat} (P : Post gs z h (c ++ [i]) true h2 s2) : Post gs t h s true (putH h2 i t) s2 := by
  have his : i ∉ s := fun z => hi (L.sub i z)
  obtain ⟨y1, y2, y3⟩ := P.yes rfl
  have nR : ∀ R, Closed gs h R → i ∉ R := fun R C k => by
    obtain ⟨y, hy, hc⟩ := C i k
    cases key_eq V.keys hy hz
    have := P.shut R C hc
    cases this
  have hz2 : (i, z) ∈ h2 := (y2 (i, z) (List.mem_append_right _ (List.mem_singleton.mpr rfl))).mpr hz
  have same : ∀ p : Nat × Int, p.1 ≠ i → (p ∈ putH h2 i t ↔ p ∈ h2) := fun p hp => by
    rw [mem_put]
    exact ⟨fun k => k.elim (fun e => absurd (by rw [e]) hp) (·.1), fun k => .inr ⟨k, hp⟩⟩
  refine ⟨put_valid P.v hb, P.sn, fun a ha => P.sub a (List.mem_append_left _ (L.sub a ha)), fun _ => ⟨?_, fun p hp => ?_, fun R C p hp => ?_⟩, fun e => (by cases e), fun R C k => absurd (k i hb) (nR R C)⟩
  · have a1 := held_put P.v.keys (t := t) his
    have a2 := held_more V.keys P.v.keys (s := i :: s) (s2 := c ++ [i]) (fun a ha => by
      rcases List.mem_cons.mp ha with k | k
      · subst k; exact List.mem_append_right _ (List.mem_singleton.mpr rfl)
      · exact List.mem_append_left _ (L.sub a k)) y2 y1
    exact a1.trans ((a2.trans (held_at V.keys his hz).symm).cons t)
  · rw [same p fun k => his (by rw [← k]; exact hp)]
    exact y2 p (List.mem_append_left _ (L.sub _ hp))
  · rw [same p fun k => nR R C (by rw [← k]; exact hp)]
    exact y3 R C p hp
end
end Ms
namespace Tk
open PySem L2 Ms
def dH (h : Hs) : MO := .dct (h.map fun p => (p.1 : Int)) (h.map fun p => .int p.2)
def dS (s : List Nat) : MO := .lst ((s.map fun a : Nat => (a : Int)).map .int)
def gsD (gs : Gs) : D := .tup (gs.map tR)
def upd2 (st : List SO) (hn sn : Nat) (h : Hs) (c : List Nat) : List SO := (st.set hn (.mo (dH h))).set sn (.mo (dS c))
section
variable {st : List SO} {hn sn : Nat} {h h' : Hs} {c c' : List Nat}
theorem u_s (l : sn < st.length) : (upd2 st hn sn h c)[sn]? = some (.mo (dS c)) := by
  unfold upd2
  rw [List.getElem?_set_self (by rw [List.length_set]; exact l)]
theorem u_h (l : hn < st.length) (ne : hn ≠ sn) : (upd2 st hn sn h c)[hn]? = some (.mo (dH h)) := by
  unfold upd2
  rw [List.getElem?_set_ne ne.symm, List.getElem?_set_self l]
theorem u_set_s : (upd2 st hn sn h c).set sn (.mo (dS c')) = upd2 st hn sn h c' := by
  unfold upd2
  rw [List.set_set]
theorem u_set_h (ne : hn ≠ sn) : (upd2 st hn sn h c).set hn (.mo (dH h')) = upd2 st hn sn h' c := by
  unfold upd2
  rw [List.set_comm _ _ ne.symm, List.set_set]
theorem u_u (ne : hn ≠ sn) : upd2 (upd2 st hn sn h c) hn sn h' c' = upd2 st hn sn h' c' := by
  show ((upd2 st hn sn h c).set hn _).set sn _ = _
  rw [u_set_h ne, u_set_s]
theorem u_len : (upd2 st hn sn h c).length = st.length := by simp [upd2]
theorem u_id (a : st[hn]? = some (.mo (dH h))) (b : st[sn]? = some (.mo (dS c))) : upd2 st hn sn h c = st := by
  have e1 : st.set hn (.mo (dH h)) = st := by
    apply List.ext_getElem?
    intro j
    by_cases z : hn = j
    · subst z; rw [List.getElem?_set_self (List.getElem?_eq_some_iff.mp a).1, a]
    · rw [List.getElem?_set_ne z]
  unfold upd2
  rw [e1]
  apply List.ext_getElem?
  intro j
  by_cases z : sn = j
  · subst z; rw [List.getElem?_set_self (List.getElem?_eq_some_iff.mp b).1, b]
  · rw [List.getElem?_set_ne z]
end
theorem getK_dH : ∀ {h : Hs} {a : Nat} {z : Int}, (h.map (·.1)).Nodup → (a, z) ∈ h → getK (h.map fun p => (p.1 : Int)) (h.map fun p => .int p.2) (a : Int) = some (.int z)
  | p :: h, a, z, hn, hz => by
    have hn' := List.nodup_cons.mp hn
    simp only [List.map_cons, getK]
    rcases List.mem_cons.mp hz with e | e
    · subst e; simp
    · have : (p.1 : Int) ≠ a := fun w => hn'.1 (List.mem_map.mpr ⟨_, e, (by simpa using (Int.ofNat.inj w).symm)⟩)
      rw [if_neg this]
      exact getK_dH hn'.2 e
theorem mem_keys {h : Hs} {a : Nat} : (a : Int) ∈ h.map (fun p => (p.1 : Int)) ↔ a ∈ h.map (·.1) := by
  simp only [List.mem_map]
  constructor
  · rintro ⟨p, hp, e⟩; exact ⟨p, hp, by omega⟩
  · rintro ⟨p, hp, e⟩; exact ⟨p, hp, by omega⟩
theorem mem_seen {c : List Nat} {a : Nat} : (a : Int) ∈ c.map (fun a : Nat => (a : Int)) ↔ a ∈ c := by
  simp only [List.mem_map]
  constructor
  · rintro ⟨p, hp, e⟩
    have : p = a := by omega
    exact this ▸ hp
  · intro h; exact ⟨a, h, rfl⟩
theorem setM_dH {h : Hs} (hl : h.length < LIM) (a : Nat) (t : Int) : setM (dH h) (.int a) (.int t) = some (dH (putH h a t)) := by
  simp only [setM, dH, List.length_map, hl, if_true, Option.some.injEq, MO.dct.injEq]
  unfold putKs putV putH
  by_cases m : a ∈ h.map (·.1)
  · have m' := mem_keys.mpr m
    rw [if_pos m', if_pos m', if_pos m]
    refine ⟨?_, ?_⟩
    · rw [List.map_map]
      apply List.map_congr_left
      intro p _
      simp only [Function.comp]
      split
      · rename_i e; rw [e]
      · rfl
    · clear m m' hl
      induction h with
      | nil => rfl
      | cons p h ih =>
        simp only [List.map_cons, List.zipWith_cons_cons, ih]
        congr 1
        by_cases e : p.1 = a
        · simp [e]
        · have : ¬ (p.1 : Int) = a := by omega
          simp [e, this]
  · have m' : ¬ (a : Int) ∈ h.map fun p => (p.1 : Int) := fun z => m (mem_keys.mp z)
    rw [if_neg m', if_neg m', if_neg m]
    simp
theorem range_get {n i : Nat} {x : D} (h : (rangeD (n : Int))[i]? = some x) : i < n ∧ x = .int i := by
  unfold rangeD at h
  rw [List.getElem?_map, Int.toNat_natCast] at h
  have hi : i < n := by
    cases q : (List.range n)[i]? with
    | none => rw [q] at h; cases h
    | some k => simpa using (List.getElem?_eq_some_iff.mp q).1
  rw [List.getElem?_range hi] at h
  cases h
  exact ⟨hi, rfl⟩
theorem range_len (n : Nat) : (rangeD (n : Int)).length = n := by simp [rangeD]
theorem c_seat (gs : Gs) (hg : gs.length < LIM) : ∀ (k : Nat) (t : Int) (h : Hs) (s : List Nat) (st : List SO) (hn sn : Nat), gs.length + 1 ≤ k + s.length → Seen gs s → Valid gs h → st[hn]? = some (.mo (dH h)) → st[sn]? = some (.mo (dS s)) → hn ≠ sn →
    ∃ b h' s', run T k "seat" [gsD gs, .int t, .ref hn, .ref sn] st = .ret (.val (.bl b)) (upd2 st hn sn h' s') ∧ Post gs t h s b h' s'
  | 0, t, h, s, st, hn, sn, hk, S, V, e1, e2, ne => by
    have := S.len
    omega
  | k + 1, t, h, s, st, hn, sn, hk, S, V, e1, e2, ne => by
    have ih := c_seat gs hg k
    have lh := (List.getElem?_eq_some_iff.mp e1).1
    have ls := (List.getElem?_eq_some_iff.mp e2).1
    have hlen : h.length ≤ gs.length := by
      have := sub_len (l2 := List.range gs.length) V.keys fun a ha => by
        obtain ⟨p, hp, e⟩ := List.mem_map.mp ha
        obtain ⟨g, hg, _⟩ := V.nb p hp
        rw [← e]
        exact List.mem_range.mpr (List.getElem?_eq_some_iff.mp hg).1
      rwa [List.length_map, List.length_range] at this
    have hL : (LIM : Int) = 1048576 := rfl
    have hL' : LIM = 1048576 := rfl
    rw [run_def (fd := d_seat) rfl rfl]
    have hsrc : srcOf true (.now (.int (gs.length : Int))) ⟨[.val (gsD gs), .val (.int t), .val (.ref hn), .val (.ref sn), .no], st⟩ = some (.int gs.length, rangeD gs.length) := by
      simp only [srcOf, rdH, derefD]
      rw [if_pos (by omega)]
    have hwalk := for_inv2 (step := forStep (run T k) (.var 4) b_seat_1) (ok := stillSrc true (.now (.int (gs.length : Int))) (.int gs.length))
      (fun i S => ∃ e4 c, S = ⟨[.val (gsD gs), .val (.int t), .val (.ref hn), .val (.ref sn), e4], upd2 st hn sn h c⟩ ∧ Lp gs t h s i c)
      (fun r S => r = .val (.bl true) ∧ ∃ h' c', S.st = upd2 st hn sn h' c' ∧ Post gs t h s true h' c') (rangeD gs.length) 0 ⟨[.val (gsD gs), .val (.int t), .val (.ref hn), .val (.ref sn), .no], st⟩
      ⟨.no, s, by rw [u_id e1 e2], Lp.init S⟩ (fun i x S hx hI => ?_)
    · have fin : ∀ (o : Out Fl), (∃ S', o = .ok .nx S' ∧ ∃ e4 c, S' = (⟨[.val (gsD gs), .val (.int t), .val (.ref hn), .val (.ref sn), e4], upd2 st hn sn h c⟩ : Sg) ∧ Lp gs t h s gs.length c) ∨ (∃ r S', o = .ok (.rt r) S' ∧ r = .val (.bl true) ∧ ∃ h' c', S'.st = upd2 st hn sn h' c' ∧ Post gs t h s true h' c') →
          ∃ b h' s', ansOf (o.bind fun fl S => match fl with
            | .nx => evSs (run T k) [.ret (.bl false)] S
            | .bk => .ok .bk S
            | .rt r => .ok (.rt r) S) = .ret (.val (.bl b)) (upd2 st hn sn h' s') ∧ Post gs t h s b h' s' := by
        rintro o (⟨S', rfl, e4, c, rfl, L⟩ | ⟨r, S', rfl, rfl, h', c', e, P⟩)
        · exact ⟨false, h, c, by simp [isVar, ansOf], L.done V⟩
        · exact ⟨true, h', c', by simp [ansOf, e], P⟩
      rw [show 0 + (rangeD (gs.length : Int)).length = gs.length by rw [range_len]; omega] at hwalk
      have := fin _ hwalk
      have e : evS (run T k) (.for_ (.var 4) true (.bif .len [(.var 0)]) b_seat_1) ⟨startE 5 [gsD gs, .int t, .ref hn, .ref sn], st⟩ = forLoop (forStep (run T k) (.var 4) b_seat_1) (stillSrc true (.now (.int (gs.length : Int))) (.int gs.length)) (rangeD gs.length) ⟨[.val (gsD gs), .val (.int t), .val (.ref hn), .val (.ref sn), .no], st⟩ := by
        rw [s_for]
        simp [startE, rdH, rdHs, derefD, bifD, gsD]
        have hsrc' := hsrc
        simp only [gsD] at hsrc'
        rw [hsrc']
      rw [show d_seat.body = [.for_ (.var 4) true (.bif .len [(.var 0)]) b_seat_1, .ret (.bl false)] from rfl, ss_cons', show d_seat.n = 5 from rfl, e]
      exact this
    · obtain ⟨e4, c, rfl, L⟩ := hI
      obtain ⟨hi, rfl⟩ := range_get hx
      rw [Nat.zero_add] at L ⊢
      have es : (upd2 st hn sn h c)[sn]? = some (.mo (dS c)) := u_s ls
      have eh : (upd2 st hn sn h c)[hn]? = some (.mo (dH h)) := u_h lh ne
      have eg : atI (gs.map tR) (i : Int) = some (tR gs[i]) := at_nat (by simp [hi])
      have nb : Nb gs t i ↔ t ∈ gs[i] := by simp [Nb, hi]
      have cl : c.length < LIM := by have := L.sn.len; omega
      let S4 : Sg := ⟨[.val (gsD gs), .val (.int t), .val (.ref hn), .val (.ref sn), .val (.int i)], upd2 st hn sn h c⟩
      have tst : evX (run T k) (.and (.cmp .isIn (.var 1) (.idx (.var 0) (.var 4))) (.cmp .notIn (.var 4) (.var 3))) S4 = .ok (.val (.bl (decide (t ∈ gs[i]) && !decide (i ∈ c)))) S4 := by
        by_cases m1 : t ∈ gs[i]
        · simp [S4, rdH, rdHs, derefD, gsD, idxD, eg, cmpD, tR, m1, es, dS, mem_seen, -List.map_map]
        · simp [S4, rdH, rdHs, derefD, gsD, idxD, eg, cmpD, tR, m1]
      have hf4 : forTg ⟨[.val (gsD gs), .val (.int t), .val (.ref hn), .val (.ref sn), e4], upd2 st hn sn h c⟩ (.var 4) (.int i) = some S4 := by simp [forTg, asgTg, S4]
      by_cases hb : Nb gs t i ∧ i ∉ c
      · have m1 : t ∈ gs[i] := nb.mp hb.1
        have m2 : i ∉ c := hb.2
        have es1 : (upd2 st hn sn h (c ++ [i]))[sn]? = some (.mo (dS (c ++ [i]))) := u_s ls
        have eh1 : (upd2 st hn sn h (c ++ [i]))[hn]? = some (.mo (dH h)) := u_h lh ne
        have S1 := L.sn.add hi hb.2
        have ap : appM (dS c) (.int i) = some (dS (c ++ [i])) := by
          simp [appM, dS, cl]
        let S5 : Sg := ⟨[.val (gsD gs), .val (.int t), .val (.ref hn), .val (.ref sn), .val (.int i)], upd2 st hn sn h (c ++ [i])⟩
        have app : evS (run T k) (.app (.var 3) (.var 4)) S4 = .ok .nx S5 := by
          have g3 : getM S4 (.slot 3) = some (dS c) := by simp [getM, S4, es]
          have h3 : hd (.var 3) (evX (run T k) (.var 3)) S4 = .ok (.slot 3) S4 := rfl
          have v4 : evX (run T k) (.var 4) S4 = .ok (.val (.int i)) S4 := by simp [S4]
          have p3 : putM S4 (dS (c ++ [i])) (.slot 3) = S5 := by simp [putM, S4, S5, u_set_s]
          rw [s_app, h3]
          simp only [Out.bind_ok, g3, dS]
          rw [v4]
          simp only [Out.bind_ok, Option.bind_some, Rv.frz_val]
          rw [g3, Option.bind_some, ap]
          exact congrArg (Out.ok Fl.nx) p3
        by_cases hf : i ∈ h.map (·.1)
        · obtain ⟨⟨i', z⟩, hp, e⟩ := List.mem_map.mp hf
          have e : i' = i := e
          rw [e] at hp
          obtain ⟨b, h2, s2, er, P⟩ := ih z h (c ++ [i]) (upd2 st hn sn h (c ++ [i])) hn sn (by
            have := L.len
            rw [List.length_append, List.length_singleton]; omega) S1 V eh1 es1 ne
          rw [u_u ne] at er
          have nt : evX (run T k) (.cmp .notIn (.var 4) (.var 2)) S5 = .ok (.val (.bl false)) S5 := by
            have : (i : Int) ∈ h.map fun p => (p.1 : Int) := mem_keys.mpr hf
            simp only [x_cmp, hd_var, S5, List.getElem?_cons_succ, List.getElem?_cons_zero, Out.bind_ok, rdHs, rdH, derefD, eh1, dH, MO.frz_dct, Option.bind_some, cmpD, this, decide_true, Bool.not_true, Option.map_some, Out.opt_some]
          have cal : evX (run T k) (.truth (.call "seat" [(.var 0), (.idx (.var 2) (.var 4)), (.var 2), (.var 3)])) S5 = .ok (.val (.bl b)) ⟨S5.env, upd2 st hn sn h2 s2⟩ := by
            have gk := getK_dH V.keys hp
            simp only [x_truth, hd_call, x_call, l_cons, l_nil, x_var, x_idx, hd_var, S5, List.getElem?_cons_succ, List.getElem?_cons_zero, Out.bind_ok, rdHs, rdH, derefD, eh1, dH, MO.frz_dct, Option.bind_some, idxD, gk, Option.map_some, Out.opt_some, Rv.frz_val, callD, er, truthD]
          have orr : evX (run T k) (.or (.cmp .notIn (.var 4) (.var 2)) (.truth (.call "seat" [(.var 0), (.idx (.var 2) (.var 4)), (.var 2), (.var 3)]))) S5 = .ok (.val (.bl b)) ⟨S5.env, upd2 st hn sn h2 s2⟩ := by
            rw [x_or, nt]
            simp only [Out.bind_ok]
            rw [cal]
            simp only [Out.bind_ok]
          cases b with
          | false =>
            obtain ⟨e2, L2⟩ := L.fail hp P
            subst e2
            left
            refine ⟨⟨S5.env, upd2 st hn sn h2 s2⟩, ?_, rfl, _, s2, rfl, L2⟩
            simp only [forStep, hf4, b_seat_1, ss_cons', s_ite, tst, m1, m2, decide_true, decide_false, Bool.not_false, Bool.and_self, Out.bind_ok, app, orr, ss_nil']
          | true =>
            right
            have h2l : h2.length < LIM := by
              have := sub_len (l2 := List.range gs.length) P.v.keys fun a ha => by
                obtain ⟨p, hp, e⟩ := List.mem_map.mp ha
                obtain ⟨g, hg, _⟩ := P.v.nb p hp
                rw [← e]
                exact List.mem_range.mpr (List.getElem?_eq_some_iff.mp hg).1
              rw [List.length_map, List.length_range] at this
              omega
            have eh2 : (upd2 st hn sn h2 s2)[hn]? = some (.mo (dH h2)) := u_h lh ne
            have st : evS (run T k) (.setI (.var 2) (.var 4) (.var 1)) ⟨S5.env, upd2 st hn sn h2 s2⟩ = .ok .nx ⟨S5.env, upd2 st hn sn (putH h2 i t) s2⟩ := by
              simp only [s_setI, x_var, hd_var, S5, List.getElem?_cons_succ, List.getElem?_cons_zero, Out.bind_ok, getM, eh2, Option.bind_some, Rv.frz_val, setM_dH h2l, putM, u_set_h ne]
            refine ⟨.val (.bl true), ⟨S5.env, upd2 _ hn sn (putH h2 i t) s2⟩, ?_, rfl, _, s2, rfl, L.shift V hb.1 hb.2 hp P⟩
            simp only [forStep, hf4, b_seat_1, ss_cons', s_ite, tst, m1, m2, decide_true, decide_false, Bool.not_false, Bool.and_self, Out.bind_ok, app, orr, ss_nil', st, s_ret, isVar, x_bl]
        · right
          have nt : evX (run T k) (.or (.cmp .notIn (.var 4) (.var 2)) (.truth (.call "seat" [(.var 0), (.idx (.var 2) (.var 4)), (.var 2), (.var 3)]))) S5 = .ok (.val (.bl true)) S5 := by
            have : ¬ (i : Int) ∈ h.map fun p => (p.1 : Int) := fun z => hf (mem_keys.mp z)
            rw [x_or]
            simp only [x_cmp, hd_var, S5, List.getElem?_cons_succ, List.getElem?_cons_zero, Out.bind_ok, rdHs, rdH, derefD, eh1, dH, MO.frz_dct, Option.bind_some, cmpD, this, decide_false, Bool.not_false, Option.map_some, Out.opt_some]
          have hl2 : h.length < LIM := by omega
          have st : evS (run T k) (.setI (.var 2) (.var 4) (.var 1)) S5 = .ok .nx ⟨S5.env, upd2 st hn sn (putH h i t) (c ++ [i])⟩ := by
            simp only [s_setI, x_var, hd_var, S5, List.getElem?_cons_succ, List.getElem?_cons_zero, Out.bind_ok, getM, eh1, Option.bind_some, Rv.frz_val, setM_dH hl2, putM, u_set_h ne]
          refine ⟨.val (.bl true), ⟨S5.env, upd2 _ hn sn (putH h i t) (c ++ [i])⟩, ?_, rfl, _, _, rfl, L.free V hb.1 hb.2 hf⟩
          simp only [forStep, hf4, b_seat_1, ss_cons', s_ite, tst, m1, m2, decide_true, decide_false, Bool.not_false, Bool.and_self, Out.bind_ok, app, nt, ss_nil', st, s_ret, isVar, x_bl]
      · left
        refine ⟨S4, ?_, rfl, _, c, rfl, L.skip hb⟩
        have hd : (decide (t ∈ gs[i]) && !decide (i ∈ c)) = false := by
          rw [nb] at hb
          simpa using hb
        simp only [forStep, hf4, b_seat_1, ss_cons', s_ite, tst, hd, Out.bind_ok, ss_nil']
end Tk
namespace Ms
/-- how many can sit -/
structure Cnt (gs : Gs) (xs : List Int) (n : Nat) : Prop where
  some : ∃ A : List Int, A.Nodup ∧ (∀ x ∈ A, x ∈ xs) ∧ Hall gs A ∧ A.length = n
  most : ∀ W : List Int, W.Nodup → (∀ x ∈ W, x ∈ xs) → Hall gs W → W.length ≤ n
theorem Cnt.uniq {gs : Gs} {xs : List Int} {n m : Nat} (a : Cnt gs xs n) (b : Cnt gs xs m) : n = m := by
  obtain ⟨A, a1, a2, a3, a4⟩ := a.some
  obtain ⟨B, b1, b2, b3, b4⟩ := b.some
  have h1 := b.most A a1 a2 a3
  have h2 := a.most B b1 b2 b3
  omega
/-- the seating so far -/
structure Run (gs : Gs) (xs : List Int) (A : List Int) (h : Hs) : Prop where
  v : Valid gs h
  perm : (h.map (·.2)).Perm A
  nd : A.Nodup
  sub : ∀ x ∈ A, x ∈ xs
  shut : ∃ R, Closed gs h R ∧ ∀ x ∈ xs, x ∈ A ∨ ∀ b, Nb gs x b → b ∈ R
theorem Run.nil (gs : Gs) : Run gs [] [] [] := ⟨⟨List.nodup_nil, fun _ h => (by cases h)⟩, .refl _, List.nodup_nil, fun _ h => h, [], fun _ h => (by cases h), fun _ h => (by cases h)⟩
theorem held_nil (h : Hs) : held [] h = h.map (·.2) := by
  unfold held out
  congr 1
  apply List.filter_eq_self.mpr
  simp
theorem Run.step {gs : Gs} {xs A : List Int} {h : Hs} (r : Run gs xs A h) {t : Int} (ht : t ∉ xs) {b : Bool} {h' : Hs} {s' : List Nat} (P : Post gs t h [] b h' s') : Run gs (xs ++ [t]) (if b then A ++ [t] else A) h' := by
  obtain ⟨R, C, hR⟩ := r.shut
  have hA : t ∉ A := fun z => ht (r.sub t z)
  cases b with
  | true =>
    obtain ⟨y1, _, y3⟩ := P.yes rfl
    rw [held_nil, held_nil] at y1
    refine ⟨P.v, (y1.trans (r.perm.cons t)).trans (List.perm_append_singleton t A).symm, ?_, fun x hx => ?_, R, fun a ha => ?_, fun x hx => ?_⟩
    · rw [if_pos rfl, List.nodup_append]
      exact ⟨r.nd, by simp, fun x hx y hy z => by subst z; cases List.mem_singleton.mp hy; exact hA hx⟩
    · rcases List.mem_append.mp hx with z | z
      · exact List.mem_append_left _ (r.sub x z)
      · exact List.mem_append_right _ z
    · obtain ⟨z, hz, hc⟩ := C a ha
      exact ⟨z, (y3 R C (a, z) ha).mpr hz, hc⟩
    · rcases List.mem_append.mp hx with z | z
      · exact (hR x z).imp (List.mem_append_left _) id
      · exact .inl (List.mem_append_right _ z)
  | false =>
    obtain ⟨e, n1, n2⟩ := P.no rfl
    subst e
    have C2 : Closed gs h' s' := fun a ha => by
      rcases n2 a ha with k | k
      · cases k
      · exact k
    refine ⟨P.v, r.perm, r.nd, fun x hx => List.mem_append_left _ (r.sub x hx), R ++ s', closed_app C C2, fun x hx => ?_⟩
    rcases List.mem_append.mp hx with z | z
    · exact (hR x z).imp id fun k b hb => List.mem_append_left _ (k b hb)
    · cases List.mem_singleton.mp z
      exact .inr fun b hb => List.mem_append_right _ (n1 b hb)
theorem Run.cnt {gs : Gs} {xs A : List Int} {h : Hs} (r : Run gs xs A h) : Cnt gs xs A.length := by
  obtain ⟨R, C, hR⟩ := r.shut
  have hl : h.length = A.length := by have := r.perm.length_eq; rwa [List.length_map] at this
  refine ⟨⟨A, r.nd, r.sub, hall_of r.v fun x hx => r.perm.mem_iff.mpr hx, rfl⟩, fun W w1 w2 w3 => ?_⟩
  rw [← hl]
  exact hall_le r.v C w1 w3 fun w hw => (hR w (w2 w hw)).imp (fun k => r.perm.mem_iff.mpr k) id
end Ms
namespace Tk
open PySem L2 Ms
theorem c_seated (gs : Gs) (hg : gs.length < LIM) (xs : List Int) (hx : xs.Nodup) (k : Nat) (hk : gs.length + 1 ≤ k) (st : List SO) : ∃ n st', run T (k + 1) "seated" [gsD gs, tR xs] st = .ret (.val (.int (n : Nat))) st' ∧ Cnt gs xs n := by
  rw [run_def (fd := d_seated) rfl rfl]
  let hn := st.length
  let S1 : Sg := ⟨[.val (gsD gs), .val (tR xs), .val (.ref hn), .no], st ++ [.mo (dH [])]⟩
  have loop := lc_inv (step := lcTurn [3] [3] (evC (run T k) (some (.truth (.call "seat" [(.var 0), (.var 3), (.var 2), (.mk (.lst []))])))) (evX (run T k) (.var 3))) (ok := stillSrc false (.slot 1) (tR xs))
    (fun i acc S => ∃ e3 st' A h, S = ⟨[.val (gsD gs), .val (tR xs), .val (.ref hn), e3], st'⟩ ∧ st'[hn]? = some (.mo (dH h)) ∧ acc = A.map .int ∧ Run gs (xs.take i) A h) (xs.map .int) 0 [] S1
    ⟨.no, _, [], [], rfl, by simp [hn], rfl, by rw [List.take_zero]; exact .nil gs⟩ (fun i x acc S hi hI => by
      obtain ⟨e3, st', A, h, rfl, eh, rfl, r⟩ := hI
      rw [Nat.zero_add] at r ⊢
      rw [List.getElem?_map] at hi
      cases q : xs[i]? with
      | none => rw [q] at hi; cases hi
      | some t =>
        rw [q] at hi
        cases hi
        have hl := (List.getElem?_eq_some_iff.mp q).1
        have htk : xs.take (i + 1) = xs.take i ++ [t] := by
          rw [List.take_add_one, q]; rfl
        have ht : t ∉ xs.take i := by
          have := hx.sublist (List.take_sublist (i + 1) xs)
          rw [htk, List.nodup_append] at this
          exact fun z => this.2.2 t z t (List.mem_singleton.mpr rfl) rfl
        have lh := (List.getElem?_eq_some_iff.mp eh).1
        obtain ⟨b, h', s', er, P⟩ := c_seat gs hg k t h [] (st' ++ [.mo (dS [])]) hn st'.length (by simp; omega) ⟨List.nodup_nil, fun _ h => by cases h⟩ r.v (by rw [List.getElem?_append_left lh]; exact eh) (by simp) (by omega)
        have hs : setTg (wipeE [.val (gsD gs), .val (tR xs), .val (.ref hn), e3] [3]) [3] (.int t) = some [.val (gsD gs), .val (tR xs), .val (.ref hn), .val (.int t)] := rfl
        have er' : run T k "seat" [gsD gs, .int t, .ref hn, .ref st'.length] (st' ++ [.mo (.lst [])]) = .ret (.val (.bl b)) (upd2 (st' ++ [.mo (dS [])]) hn st'.length h' s') := er
        have ev : evX (run T k) (.truth (.call "seat" [(.var 0), (.var 3), (.var 2), (.mk (.lst []))])) ⟨[.val (gsD gs), .val (tR xs), .val (.ref hn), .val (.int t)], st'⟩ = .ok (.val (.bl b)) ⟨[.val (gsD gs), .val (tR xs), .val (.ref hn), .val (.int t)], upd2 (st' ++ [.mo (dS [])]) hn st'.length h' s'⟩ := by
          simp only [x_truth, hd_call, x_call, l_cons, l_nil, x_var, x_mk, x_lst, List.getElem?_cons_succ, List.getElem?_cons_zero, Out.bind_ok, Rv.frz_val, callD, er', rdH, derefD, Option.bind_some, truthD, Option.map_some, Out.opt_some]
        have still : stillSrc false (.slot 1) (tR xs) ⟨[.val (gsD gs), .val (tR xs), .val (.ref hn), .val (.int t)], upd2 (st' ++ [.mo (dS [])]) hn st'.length h' s'⟩ = true := by
          unfold stillSrc
          rw [Bool.false_or]
          exact still_refl rfl
        have eh' : (upd2 (st' ++ [.mo (dS [])]) hn st'.length h' s')[hn]? = some (.mo (dH h')) := u_h (by simp; omega) (by omega)
        have r' := r.step ht P
        rw [← htk] at r'
        refine ⟨if b then some (.int t) else none, _, ?_, still, _, _, _, h', rfl, eh', ?_, r'⟩
        · simp only [lcTurn, hs, evC, ev, Out.bind_ok]
          cases b <;> simp
        · cases b <;> simp)
  obtain ⟨acc, S2, e, e3, st', A, h, rfl, eh, rfl, r⟩ := loop
  rw [List.length_map, Nat.zero_add, List.take_length] at r
  refine ⟨A.length, st', ?_, r.cnt⟩
  have lc : evX (run T k) (.lc [3] (.var 3) [3] false (.var 1) (some (.truth (.call "seat" [(.var 0), (.var 3), (.var 2), (.mk (.lst []))])))) S1 = .ok (.own (.lst (A.map .int))) ⟨backE S1.env [.val (gsD gs), .val (tR xs), .val (.ref hn), e3] [3], st'⟩ := by
    rw [x_lc]
    have hs : srcOf false (.slot 1) S1 = some (tR xs, xs.map .int) := rfl
    have h1 : hd (.var 1) (evX (run T k) (.var 1)) S1 = .ok (.slot 1) S1 := rfl
    rw [h1]
    simp only [Out.bind_ok, hs]
    rw [show (notOwn S1.env [3] && srcOut [3] (.slot 1)) = true from rfl, if_pos rfl, e]
    rfl
  have asg : evS (run T k) (.asg (.var 2) (.mk .dct0)) ⟨startE 4 [gsD gs, tR xs], st⟩ = .ok .nx S1 := by
    rw [s_asg, x_mk, x_dct0]; rfl
  have ret : evS (run T k) (.ret (.bif .len [(.lc [3] (.var 3) [3] false (.var 1) (some (.truth (.call "seat" [(.var 0), (.var 3), (.var 2), (.mk (.lst []))]))))])) S1 = .ok (.rt (.val (.int (A.length : Nat)))) ⟨backE S1.env [.val (gsD gs), .val (tR xs), .val (.ref hn), e3] [3], st'⟩ := by
    simp only [s_ret, isVar, x_bif, h_cons, h_nil, hd_lc, lc, Out.bind_ok, rdHs, rdH, derefD, Rv.frz_own, MO.frz_lst, Option.bind_some, bifD, Out.opt_some, List.length_map]
  rw [show d_seated.body = [.asg (.var 2) (.mk .dct0), .ret (.bif .len [(.lc [3] (.var 3) [3] false (.var 1) (some (.truth (.call "seat" [(.var 0), (.var 3), (.var 2), (.mk (.lst []))]))))])] from rfl, ss_cons', show d_seated.n = 4 from rfl, asg, Out.bind_ok, ss_cons', ret]
  rfl
end Tk
namespace Ms
def subsF : List Int → Nat → List (List Int)
  | _, 0 => [[]]
  | [], _ + 1 => []
  | x :: xs, c + 1 => (subsF xs c).map (x :: ·) ++ subsF xs (c + 1)
theorem subs_short : ∀ {xs : List Int} {c : Nat}, xs.length < c → subsF xs c = []
  | [], c + 1, _ => rfl
  | x :: xs, c + 1, h => by
    simp only [List.length_cons] at h
    rw [subsF, subs_short (by omega), subs_short (by omega)]; rfl
theorem subs_len : ∀ (xs : List Int) (c : Nat), (subsF xs c).length ≤ 2 ^ xs.length
  | xs, 0 => by
    have : 0 < 2 ^ xs.length := Nat.two_pow_pos _
    cases xs <;> (simp [subsF] at *; try omega)
  | [], c + 1 => by simp [subsF]
  | x :: xs, c + 1 => by
    have h1 := subs_len xs c
    have h2 := subs_len xs (c + 1)
    simp only [subsF, List.length_append, List.length_map, List.length_cons]
    rw [Nat.pow_succ]; omega
theorem mem_subs : ∀ {xs : List Int} {c : Nat} {r : List Int}, r ∈ subsF xs c ↔ r.Sublist xs ∧ r.length = c
  | xs, 0, r => by
    cases xs <;> simp [subsF, List.length_eq_zero_iff]
    · intro h; subst h; exact List.nil_sublist _
  | [], c + 1, r => by
    simp [subsF]
    intro h; subst h; simp
  | x :: xs, c + 1, r => by
    rw [subsF, List.mem_append, List.mem_map, mem_subs (xs := xs) (c := c + 1)]
    constructor
    · rintro (⟨s, hs, rfl⟩ | ⟨h1, h2⟩)
      · have := mem_subs.mp hs
        exact ⟨this.1.cons_cons x, by simp [this.2]⟩
      · exact ⟨h1.cons x, h2⟩
    · rintro ⟨h1, h2⟩
      cases h1 with
      | cons _ h => exact .inr ⟨h, h2⟩
      | cons_cons _ h =>
        rename_i s
        exact .inl ⟨s, mem_subs.mpr ⟨h, by simpa using h2⟩, rfl⟩
def rng (n : Nat) : List Int := (List.range n).map fun k : Nat => (k : Int)
end Ms
namespace Tk
open PySem L2 Ms
theorem rangeD_rng (n : Nat) : rangeD (n : Int) = (rng n).map .int := by
  simp [rangeD, rng]
theorem sIx_from {n i : Nat} (h : i ≤ n) : HT.sIx n 0 (some (i : Int)) = i := by
  rw [HT.sIx_nat, Nat.min_eq_left h]
theorem cut_from {α : Type} (xs : List α) (i : Nat) (h : i ≤ xs.length) : cutL xs (some (i : Int)) none = xs.drop i := by
  unfold cutL
  rw [sIx_from h]
  have : HT.sIx xs.length xs.length none = xs.length := rfl
  rw [this, List.take_of_length_le (by rw [List.length_drop]; exact Nat.le_refl _)]
theorem cut_tR (xs : List Int) (i : Nat) (h : i + 1 ≤ xs.length) : slcV (tR xs) (some ((i : Int) + 1)) none = some (.val (tR (xs.drop (i + 1)))) := by
  simp only [slcV, tR]
  rw [show (i : Int) + 1 = ((i + 1 : Nat) : Int) by omega, cut_from _ _ (by rw [List.length_map]; exact h), List.map_drop]
theorem rangeD_get {n : Int} {i : Nat} {x : D} (h : (rangeD n)[i]? = some x) : (i : Int) < n ∧ x = .int i := by
  have e : rangeD n = rangeD (n.toNat : Int) := by unfold rangeD; rw [Int.toNat_natCast]
  rw [e] at h
  obtain ⟨h1, h2⟩ := range_get h
  exact ⟨by omega, h2⟩
theorem c_subsets : ∀ (k : Nat) (xs : List Int) (c : Nat) (st : List SO), c + 1 ≤ k → xs.length ≤ 12 → c ≤ 1000 → run T k "subsets" [tR xs, .int c] st = .ret (.own (.lst ((subsF xs c).map tR))) st
  | k + 1, xs, 0, st, _, _, _ => by
    have : subsF xs 0 = [[]] := by cases xs <;> rfl
    rw [run_def (fd := d_subsets) rfl rfl, this]
    simp [d_subsets, startE, isVar, ansOf]
  | k + 1, xs, c + 1, st, hk, hx, hc => by
    have ih := c_subsets k
    rw [run_def (fd := d_subsets) rfl rfl]
    have big : ∀ (ys : List Int) (m : Nat), ys.length ≤ 12 → (subsF ys m).length ≤ 4096 := fun ys m h => by
      have h1 := subs_len ys m
      have : 2 ^ ys.length ≤ 2 ^ 12 := Nat.pow_le_pow_right (by omega) h
      omega
    have hL : LIM = 1048576 := rfl
    have hLi : (LIM : Int) = 1048576 := rfl
    let A (f : List (List Int)) (e3 e4 : Slot) : Sg := ⟨[.val (tR xs), .val (.int ((c : Int) + 1)), .own (.lst (f.map tR)), e3, e4], st⟩
    -- the inner walk
    have inner : ∀ (f : List (List Int)) (i : Nat) (x : Int) (e4 : Slot), xs[i]? = some x → f.length ≤ 4096 → ∃ e4', evSs (run T k) b_subsets_2 (A f (.val (.int i)) e4) = .ok .nx (A (f ++ (subsF (xs.drop (i + 1)) c).map (x :: ·)) (.val (.int i)) e4') := by
      intro f i x e4 hxi hf
      have hi := (List.getElem?_eq_some_iff.mp hxi).1
      let rows := subsF (xs.drop (i + 1)) c
      have hr : rows.length ≤ 4096 := big _ _ (by rw [List.length_drop]; omega)
      have cal : evX (run T k) (.call "subsets" [(.slc (.var 0) (some (.bin .add (.var 3) (.int 1))) none), (.bin .sub (.var 1) (.int 1))]) (A f (.val (.int i)) e4) = .ok (.own (.lst (rows.map tR))) (A f (.val (.int i)) e4) := by
        have h1 := cut_tR xs i (by omega)
        have h2 := ih (xs.drop (i + 1)) c st (by omega) (by rw [List.length_drop]; omega) (by omega)
        simp [A, binD, h1, callD, h2, rows]
      have lp := for_inv (step := forStep (run T k) (.var 4) b_subsets_1) (ok := stillSrc false (.now (.lst (rows.map tR))) (.lst (rows.map tR)))
        (fun j S => ∃ e4', S = A (f ++ (rows.take j).map (x :: ·)) (.val (.int i)) e4') (rows.map tR) 0 (A f (.val (.int i)) e4) ⟨e4, by simp⟩ (fun j y S hy hI => by
          obtain ⟨e4', rfl⟩ := hI
          rw [Nat.zero_add]
          rw [List.getElem?_map] at hy
          cases q : rows[j]? with
          | none => rw [q] at hy; cases hy
          | some r =>
            rw [q] at hy
            cases hy
            have hx0 : atI xs (i : Int) = some x := at_nat hxi
            have hrl : r.length ≤ xs.length := by
              have h1 := (mem_subs.mp (List.mem_of_getElem? q)).1.length_le
              rw [List.length_drop] at h1
              omega
            have ft : forTg (A (f ++ (rows.take j).map (x :: ·)) (.val (.int i)) e4') (.var 4) (tR r) = some (A (f ++ (rows.take j).map (x :: ·)) (.val (.int i)) (.val (tR r))) := rfl
            have hl : ((f ++ (rows.take j).map (x :: ·)).map tR).length < LIM := by
              simp only [List.length_map, List.length_append, List.length_take]; omega
            have hv : evX (run T k) (.bin .add (.tup [(.idx (.var 0) (.var 3))]) (.var 4)) (A (f ++ (rows.take j).map (x :: ·)) (.val (.int i)) (.val (tR r))) = .ok (.val (tR (x :: r))) (A (f ++ (rows.take j).map (x :: ·)) (.val (.int i)) (.val (tR r))) := by
              have k1 : 1 + r.length ≤ LIM := by omega
              have k2 : r.length + 1 ≤ LIM := by omega
              simp [A, hx0, k1, k2]
            refine ⟨A (f ++ (rows.take (j + 1)).map (x :: ·)) (.val (.int i)) (.val (tR r)), ?_, ?_, _, rfl⟩
            · have g2 : ∀ (g : List (List Int)) (e : Slot), getM (A g (.val (.int i)) e) (.slot 2) = some (.lst (g.map tR)) := fun _ _ => rfl
              have h2 : ∀ (g : List (List Int)) (e : Slot), hd (.var 2) (evX (run T k) (.var 2)) (A g (.val (.int i)) e) = .ok (.slot 2) (A g (.val (.int i)) e) := fun _ _ => rfl
              simp only [forStep, ft, b_subsets_1, ss_cons', ss_nil', s_app, h2, g2, Out.bind_ok, hv, Option.bind_some, appM, Rv.frz_val]
              rw [if_pos hl]
              simp only [Out.bind_ok]
              congr 1
              rw [List.take_add_one, q]
              simp [putM, A]
            · unfold stillSrc
              rw [Bool.false_or]
              exact still_refl rfl)
      obtain ⟨S', e, e4', rfl⟩ := lp
      refine ⟨e4', ?_⟩
      rw [List.length_map, Nat.zero_add, List.take_length] at e
      rw [show b_subsets_2 = [.for_ (.var 4) false (.call "subsets" [(.slc (.var 0) (some (.bin .add (.var 3) (.int 1))) none), (.bin .sub (.var 1) (.int 1))]) b_subsets_1] from rfl, ss_cons', s_for, cal]
      simp only [Out.bind_ok, Rv.frz_own, MO.frz_lst]
      rw [show srcOf false (.now (.lst (rows.map tR))) (A f (.val (.int i)) e4) = some (.lst (rows.map tR), rows.map tR) from rfl]
      simp only [e, Out.bind_ok, ss_nil']
      rfl
    let n : Int := (xs.length : Int) - ((c : Int) + 1) + 1
    have tot := big xs (c + 1) hx
    have outer := for_inv (step := forStep (run T k) (.var 3) b_subsets_2) (ok := stillSrc true (.now (.int n)) (.int n))
      (fun i S => ∃ f e3 e4, S = A f e3 e4 ∧ f ++ subsF (xs.drop i) (c + 1) = subsF xs (c + 1)) (rangeD n) 0 (A [] .no .no) ⟨[], _, _, rfl, by simp⟩ (fun i y S hy hI => by
        obtain ⟨f, e3, e4, rfl, hf⟩ := hI
        rw [Nat.zero_add] at hf ⊢
        obtain ⟨hi, rfl⟩ := rangeD_get hy
        have hil : i < xs.length := by simp only [n] at hi; omega
        have fl : f.length ≤ 4096 := by
          have := congrArg List.length hf
          rw [List.length_append] at this
          omega
        obtain ⟨e4', e⟩ := inner f i xs[i] e4 (List.getElem?_eq_getElem hil) fl
        refine ⟨A (f ++ (subsF (xs.drop (i + 1)) c).map (xs[i] :: ·)) (.val (.int i)) e4', ?_, rfl, _, _, _, rfl, ?_⟩
        · have ft : forTg (A f e3 e4) (.var 3) (.int i) = some (A f (.val (.int i)) e4) := rfl
          simp only [forStep, ft]
          exact e
        · rw [← hf, List.drop_eq_getElem_cons hil, subsF, List.append_assoc])
    obtain ⟨S', e, f, e3, e4, rfl, hf⟩ := outer
    have hd0 : subsF (xs.drop (0 + (rangeD n).length)) (c + 1) = [] := by
      apply subs_short
      have : (rangeD n).length = n.toNat := by simp [rangeD]
      rw [this, List.length_drop]
      simp only [n]; omega
    rw [hd0, List.append_nil] at hf
    subst hf
    have hn : srcOf true (.now (.int n)) (A [] .no .no) = some (.int n, rangeD n) := by
      simp only [srcOf, rdH_now, derefD_int]
      rw [if_pos (by simp only [n]; omega)]
    have it : evX (run T k) (.bin .add (.bin .sub (.bif .len [(.var 0)]) (.var 1)) (.int 1)) (A [] .no .no) = .ok (.val (.int n)) (A [] .no .no) := by
      simp [A, binD, n]
    have t0 : evS (run T k) (.ite (.cmp .eq (.var 1) (.int 0)) [.ret (.lst [(.tup [])])] []) ⟨startE 5 [tR xs, .int ((c + 1 : Nat) : Int)], st⟩ = .ok .nx ⟨startE 5 [tR xs, .int ((c + 1 : Nat) : Int)], st⟩ := by
      have : ¬ ((c : Int) + 1 = 0) := by omega
      simp [startE, this]
    have t1 : evS (run T k) (.asg (.var 2) (.lst [])) ⟨startE 5 [tR xs, .int ((c + 1 : Nat) : Int)], st⟩ = .ok .nx (A [] .no .no) := by
      simp [startE, asgTg, A]
    rw [show d_subsets.body = [.ite (.cmp .eq (.var 1) (.int 0)) [.ret (.lst [(.tup [])])] [], .asg (.var 2) (.lst []), .for_ (.var 3) true (.bin .add (.bin .sub (.bif .len [(.var 0)]) (.var 1)) (.int 1)) b_subsets_2, .ret (.var 2)] from rfl,
      show d_subsets.n = 5 from rfl, ss_cons', t0, Out.bind_ok, ss_cons', t1, Out.bind_ok, ss_cons', s_for, it]
    simp only [Out.bind_ok, Rv.frz_val, hn, e, ss_cons', s_ret, isVar, A, List.getElem?_cons_succ, List.getElem?_cons_zero, ansOf]
end Tk
namespace Tk
open PySem L2
theorem c_is_integer (k : Nat) (n : Int) (st : List SO) : run T (k + 1) "_law_is_integer" [.int n] st = .ret (.val (.bl true)) st := by
  rw [run_def (fd := d_l_is_integer) rfl rfl]
  simp [d_l_is_integer, startE, isVar, rdH, derefD, isiD, ansOf]
theorem c_cell (k : Nat) (xs : List Int) (i : Nat) (st : List SO) : ∃ n : Int, run T (k + 1) "_law_cell" [.scr xs, .int i] st = .ret (.val (.int n)) st := by
  rw [run_def (fd := d_l_cell) rfl rfl]
  by_cases h : (i : Int) < xs.length
  · have e : atI xs (i : Int) = some (xs[i]'(by omega)) := by
      unfold atI ixN
      simp [show (i : Int) < xs.length from h]
    exact ⟨xs[i]'(by omega), by simp [d_l_cell, startE, isVar, rdH, rdHs, derefD, bifD, cmpD, h, idxD, e, ansOf]⟩
  · exact ⟨5 * i + 3, by simp [d_l_cell, startE, isVar, rdH, rdHs, derefD, bifD, cmpD, h, idxD, ansOf, binD, smallI]⟩
end Tk
namespace Ms
def StrInc (xs : List Int) : Prop := ∀ (i : Nat) (x y : Int), xs[i]? = some x → xs[i + 1]? = some y → x < y
end Ms
namespace Tk
open PySem L2 Ms
theorem fm_some {α β : Type} (f : α → β) : ∀ xs : List α, xs.filterMap (fun x => some (f x)) = xs.map f
  | [] => rfl
  | x :: xs => by simp [fm_some f xs]
theorem fm_if {α β : Type} (p : α → Bool) (f : α → β) : ∀ xs : List α, xs.filterMap (fun x => if p x then some (f x) else none) = (xs.filter p).map f
  | [] => rfl
  | x :: xs => by
    have := fm_if p f xs
    cases h : p x <;> simp [List.filterMap_cons, List.filter_cons, h, this]
theorem c_is_set (k : Nat) (xs : List Int) (n : Nat) (st : List SO) (hl : xs.length ≤ LIM) (h1 : ∀ x ∈ xs, 0 ≤ x ∧ x < n) (h2 : StrInc xs) : run T (k + 2) "_law_is_set" [tR xs, .int n] st = .ret (.val (.bl true)) st := by
  rw [run_def (fd := d_l_is_set) rfl rfl]
  have hL : (LIM : Int) = 1048576 := rfl
  have hL' : LIM = 1048576 := rfl
  let A (e : Slot) : Sg := ⟨[.val (tR xs), .val (.int n), e], st⟩
  have lp := for_inv (step := forStep (run T (k + 1)) (.var 2) b_l_is_set_1) (ok := stillSrc true (.now (.int (xs.length : Int))) (.int xs.length)) (fun i S => ∃ e, S = A e) (rangeD xs.length) 0 (A .no) ⟨_, rfl⟩ (fun i y S hy hI => by
    obtain ⟨e, rfl⟩ := hI
    obtain ⟨hi, rfl⟩ := range_get hy
    refine ⟨A (.val (.int i)), ?_, rfl, _, rfl⟩
    have ex : atI xs (i : Int) = some xs[i] := at_nat (List.getElem?_eq_getElem hi)
    have hx := h1 xs[i] (List.getElem_mem hi)
    have hx1 : ¬ xs[i] < 0 := by omega
    have hx2 : ¬ (n : Int) ≤ xs[i] := by omega
    have ft : forTg (A e) (.var 2) (.int i) = some (A (.val (.int i))) := rfl
    have ci := fun m s => c_is_integer k m s
    by_cases h0 : i = 0
    · subst h0
      have ex : atI xs 0 = some xs[0] := ex
      simp only [forStep, ft]
      simp [b_l_is_set_1, A, ex, callD, ci, truthD, cmpD, hx1, hx2]
    · have e1 : atI xs ((i : Int) - 1) = some (xs[i - 1]'(by omega)) := by
        rw [show (i : Int) - 1 = ((i - 1 : Nat) : Int) by omega]
        exact at_nat (List.getElem?_eq_getElem (by omega))
      have hlt := h2 (i - 1) (xs[i - 1]'(by omega)) xs[i] (List.getElem?_eq_getElem (by omega)) (by rw [show i - 1 + 1 = i by omega]; exact List.getElem?_eq_getElem hi)
      have hle : ¬ xs[i] ≤ xs[i - 1]'(by omega) := by omega
      have hp : 0 < i := by omega
      simp only [forStep, ft]
      simp [b_l_is_set_1, A, ex, e1, callD, ci, truthD, cmpD, hx1, hx2, hp, binD, hle])
  obtain ⟨S', e, e2, rfl⟩ := lp
  have hs : srcOf true (.now (.int (xs.length : Int))) (A .no) = some (.int xs.length, rangeD xs.length) := by
    simp only [srcOf, rdH_now, derefD_int]
    rw [if_pos (by omega)]
  simp only [A] at hs e
  simp [d_l_is_set, startE, s_for, truthD, hs, e, isVar, ansOf]
theorem c_is_offer (k : Nat) (lots : List (List Int)) (n : Nat) (st : List SO) (hl : ∀ xs ∈ lots, xs.length ≤ LIM) (h1 : ∀ xs ∈ lots, ∀ x ∈ xs, 0 ≤ x ∧ x < n) (h2 : ∀ xs ∈ lots, StrInc xs) :
    run T (k + 3) "_law_is_offer" [.tup [.int n, .tup (lots.map tR)], .int n, .tup (lots.map tR)] st = .ret (.val (.bl true)) st := by
  rw [run_def (fd := d_l_is_offer) rfl rfl]
  let A (e : Slot) : Sg := ⟨[.val (.tup [.int n, .tup (lots.map tR)]), .val (.int n), .val (.tup (lots.map tR)), e], st⟩
  have lp := for_inv (step := forStep (run T (k + 2)) (.var 3) b_l_is_offer_1) (ok := stillSrc false (.now (.tup (lots.map tR))) (.tup (lots.map tR))) (fun i S => ∃ e, S = A e) (lots.map tR) 0 (A .no) ⟨_, rfl⟩ (fun i y S hy hI => by
    obtain ⟨e, rfl⟩ := hI
    rw [List.getElem?_map] at hy
    cases q : lots[i]? with
    | none => rw [q] at hy; cases hy
    | some r =>
      rw [q] at hy
      cases hy
      have hm := List.mem_of_getElem? q
      refine ⟨A (.val (tR r)), ?_, still_now rfl, _, rfl⟩
      have ft : forTg (A e) (.var 3) (tR r) = some (A (.val (tR r))) := rfl
      have ci := c_is_set k r n st (hl r hm) (h1 r hm) (h2 r hm)
      simp only [forStep, ft]
      simp [b_l_is_offer_1, A, callD, ci, truthD])
  obtain ⟨S', e, e2, rfl⟩ := lp
  have hs : srcOf false (.now (.tup (lots.map tR))) (A .no) = some (.tup (lots.map tR), lots.map tR) := rfl
  have ci := fun m s => c_is_integer (k + 1) m s
  have a0 : idxD (.tup [.int n, .tup (lots.map tR)]) (.int 0) = some (.int n) := rfl
  have a1 : idxD (.tup [.int n, .tup (lots.map tR)]) (.int 1) = some (.tup (lots.map tR)) := rfl
  have l2 : bifD .len [.tup [.int n, .tup (lots.map tR)]] = some (.val (.int 2)) := rfl
  have i1 : ∀ xs, isiD (.tup xs) .tuple = some true := fun _ => rfl
  simp only [A] at hs e
  simp [d_l_is_offer, startE, s_for, truthD, hs, e, isVar, ansOf, a0, a1, l2, i1, callD, ci]
theorem c_within (k : Nat) (xs ys : List Int) (st : List SO) : run T (k + 1) "_law_within" [tR xs, tR ys] st = .ret (.val (.bl (xs.all fun x => decide (x ∈ ys)))) st := by
  rw [run_def (fd := d_l_within) rfl rfl]
  have lc := x_lcP (Φ := run T k) (cond := none) (elt := .cmp .isIn (.var 2) (.var 1)) (it := .var 0) (rg := false) (v := 2) (S := ⟨[.val (tR xs), .val (tR ys), .no], st⟩) (h := .slot 0) (d := tR xs) (items := xs) (g := .int) (fun x => some (.bl (decide (x ∈ ys)))) rfl rfl rfl
    fun x _ => ⟨by simp, still_slot rfl⟩
  have e1 : (xs.filterMap fun x => some (D.bl (decide (x ∈ ys)))) = (xs.map fun x => decide (x ∈ ys)).map .bl := by rw [fm_some, List.map_map]; rfl
  rw [e1] at lc
  simp [d_l_within, startE, lc, isVar, ansOf, bifD, -List.map_map]
theorem c_exchanged (k : Nat) (xs : List Int) (o p : Int) (st : List SO) (hl : xs.length < LIM) : run T (k + 1) "_law_exchanged" [tR xs, .int o, .int p] st = .ret (.val (tR (sortI ((xs.filter fun x => decide (x ≠ o)) ++ [p])))) st := by
  rw [run_def (fd := d_l_exchanged) rfl rfl]
  have lc := x_lcP (Φ := run T k) (cond := some (.cmp .ne (.var 3) (.var 1))) (elt := .var 3) (it := .var 0) (rg := false) (v := 3) (S := ⟨[.val (tR xs), .val (.int o), .val (.int p), .no], st⟩) (h := .slot 0) (d := tR xs) (items := xs) (g := .int) (fun x => if decide (x ≠ o) then some (.int x) else none) rfl rfl rfl
    fun x _ => ⟨by by_cases h : x = o <;> simp [h], still_slot rfl⟩
  rw [fm_if] at lc
  have hb : binD .add (.lst ((xs.filter fun x => decide (x ≠ o)).map .int)) (.lst [.int p]) = some (.own (.lst (((xs.filter fun x => decide (x ≠ o)) ++ [p]).map .int))) := by
    have := List.length_filter_le (fun x => decide (x ≠ o)) xs
    simp only [binD, List.length_map, List.length_cons, List.length_nil]
    rw [if_pos (by omega)]
    simp
  have hs : bifD .sorted [.lst (((xs.filter fun x => decide (x ≠ o)) ++ [p]).map .int)] = some (.own (.lst ((sortI ((xs.filter fun x => decide (x ≠ o)) ++ [p])).map .int))) := by
    simp only [bifD, sortD_ints, Option.map_some]
  have ht : ∀ zs : List Int, bifD .tuple [.lst (zs.map .int)] = some (.val (tR zs)) := fun _ => rfl
  simp only [d_l_exchanged, startE, ss_cons', s_ret, isVar, x_bif, h_cons, h_nil, hd_bif, hd_bin, x_bin, hd_lc, hd_lst, x_lst, l_cons, l_nil, x_var, List.map_cons, List.map_nil, List.length_cons, List.length_nil, List.cons_append, List.nil_append]
  rw [show List.replicate (4 - (0 + 1 + 1 + 1)) Slot.no = [.no] from rfl, lc]
  simp only [Out.bind_ok, List.getElem?_cons_succ, List.getElem?_cons_zero, rdHs_cons, rdHs_nil, rdH_now, derefD_lst, Rv.frz_own, Rv.frz_val, MO.frz_lst, Option.bind_some, hb, hs, ht, opt_ok, ansOf]
theorem c_met (k : Nat) (gs : Gs) (xs : List Int) (st : List SO) : run T (k + 1) "_law_met" [gsD gs, tR xs] st = .ret (.val (.int (met gs xs : Nat))) st := by
  rw [run_def (fd := d_l_met) rfl rfl]
  have inner : ∀ (g : List Int), evX (run T k) (.lc [3] (.cmp .isIn (.var 3) (.var 2)) [3] false (.var 1) none) ⟨[.val (gsD gs), .val (tR xs), .val (tR g), .no], st⟩ = .ok (.own (.lst ((xs.map fun x => decide (x ∈ g)).map .bl))) ⟨[.val (gsD gs), .val (tR xs), .val (tR g), .no], st⟩ := fun g => by
    have lc := x_lcP (Φ := run T k) (cond := none) (elt := .cmp .isIn (.var 3) (.var 2)) (it := .var 1) (rg := false) (v := 3) (S := ⟨[.val (gsD gs), .val (tR xs), .val (tR g), .no], st⟩) (h := .slot 1) (d := tR xs) (items := xs) (g := .int) (fun x => some (.bl (decide (x ∈ g)))) rfl rfl rfl
      fun x _ => ⟨by simp, still_slot rfl⟩
    rw [fm_some] at lc
    rw [List.map_map]; exact lc
  have lc := x_lcP (Φ := run T k) (cond := some (.truth (.bif .any [(.lc [3] (.cmp .isIn (.var 3) (.var 2)) [3] false (.var 1) none)]))) (elt := .var 2) (it := .var 0) (rg := false) (v := 2) (S := ⟨[.val (gsD gs), .val (tR xs), .no, .no], st⟩) (h := .slot 0) (d := gsD gs) (items := gs) (g := tR) (fun g => if (xs.any fun x => decide (x ∈ g)) then some (tR g) else none) rfl rfl rfl
    fun g _ => ⟨by
      have h1 := inner g
      simp only [v_some, c_some, x_truth, hd_bif, x_bif, h_cons, h_nil, hd_lc, x_var]
      rw [show ([.val (gsD gs), .val (tR xs), .no, .no] : List Slot).set 2 (.val (tR g)) = [.val (gsD gs), .val (tR xs), .val (tR g), .no] from rfl, h1]
      simp only [Out.bind_ok, rdHs_cons, rdHs_nil, rdH_now, Rv.frz_own, MO.frz_lst, derefD_lst, Option.bind_some, bifD, boolsD_map, Option.map_some, opt_ok, Rv.frz_val, derefD_bl, truthD, List.any_map, Function.comp, id, List.getElem?_cons_succ, List.getElem?_cons_zero]
      rw [show (id ∘ fun x => decide (x ∈ g)) = fun x => decide (x ∈ g) from rfl]
      cases xs.any fun x => decide (x ∈ g) <;> rfl, still_slot rfl⟩
  rw [fm_if] at lc
  simp only [d_l_met, startE, ss_cons', s_ret, isVar, x_bif, h_cons, h_nil, hd_lc, List.map_cons, List.map_nil, List.length_cons, List.length_nil, List.cons_append, List.nil_append]
  rw [show List.replicate (4 - (0 + 1 + 1)) Slot.no = [.no, .no] from rfl, lc]
  simp only [Out.bind_ok, rdHs_cons, rdHs_nil, rdH_now, Rv.frz_own, MO.frz_lst, derefD_lst, Option.bind_some, bifD, opt_ok, ansOf, List.length_map]
  rfl
end Tk
namespace Ms
def rowsN : Nat → List (List Int)
  | 0 => [[]]
  | t + 1 => rowsN t ++ (rowsN t).map (· ++ [(t : Int)])
theorem rowsN_len : ∀ t, (rowsN t).length = 2 ^ t
  | 0 => rfl
  | t + 1 => by simp only [rowsN, List.length_append, List.length_map, rowsN_len t, Nat.pow_succ]; omega
theorem rowsN_row : ∀ (t : Nat) (r : List Int), r ∈ rowsN t → r.length ≤ t
  | 0, r, h => by simp [rowsN] at h; simp [h]
  | t + 1, r, h => by
    simp only [rowsN, List.mem_append, List.mem_map] at h
    rcases h with h | ⟨s, h, rfl⟩
    · have := rowsN_row t r h; omega
    · have := rowsN_row t s h; simp; omega
end Ms
namespace Tk
open PySem L2 Ms
theorem c_parts (k n : Nat) (hn : n ≤ 8) (st : List SO) : run T (k + 1) "_law_parts_of" [.int n] st = .ret (.own (.lst ((sortR (rowsN n)).map tR))) st := by
  rw [run_def (fd := d_l_parts_of) rfl rfl]
  have hL : (LIM : Int) = 1048576 := rfl
  have hL' : LIM = 1048576 := rfl
  let A (t : Nat) (e2 : Slot) : Sg := ⟨[.val (.int n), .val (.lst ((rowsN t).map tR)), e2, .no], st⟩
  have lp := for_inv (step := forStep (run T k) (.var 2) b_l_parts_of_1) (ok := stillSrc true (.now (.int (n : Int))) (.int n)) (fun i S => ∃ e2, S = A i e2) (rangeD n) 0 (A 0 .no) ⟨_, rfl⟩ (fun i y S hy hI => by
    obtain ⟨e2, rfl⟩ := hI
    obtain ⟨hi, rfl⟩ := range_get hy
    rw [Nat.zero_add]
    refine ⟨A (i + 1) (.val (.int i)), ?_, rfl, _, rfl⟩
    have ft : forTg (A i e2) (.var 2) (.int i) = some (A i (.val (.int i))) := rfl
    have h2 : 2 ^ i ≤ 2 ^ 8 := Nat.pow_le_pow_right (by omega) (by omega)
    have lc := x_lcP (Φ := run T k) (cond := none) (elt := .bin .add (.var 3) (.tup [(.var 2)])) (it := .var 1) (rg := false) (v := 3) (S := A i (.val (.int i))) (h := .slot 1) (d := .lst ((rowsN i).map tR)) (items := rowsN i) (g := tR) (fun r => some (tR (r ++ [(i : Int)]))) rfl rfl rfl
      fun r hr => ⟨by
        have := rowsN_row i r hr
        have h3 : r.length + 1 ≤ LIM := by omega
        simp [A, h3], still_slot rfl⟩
    rw [fm_some] at lc
    have e : (rowsN i).map tR ++ (rowsN i).map (fun r => tR (r ++ [(i : Int)])) = (rowsN (i + 1)).map tR := by
      simp [rowsN, List.map_map, Function.comp]
    have hb : binD .add (.lst ((rowsN i).map tR)) (.lst ((rowsN i).map fun r => tR (r ++ [(i : Int)]))) = some (.own (.lst ((rowsN (i + 1)).map tR))) := by
      simp only [binD, List.length_map, rowsN_len]
      rw [if_pos (by omega), e]
    simp only [A] at lc
    simp only [forStep, ft]
    simp only [b_l_parts_of_1, ss_cons', ss_nil', s_asg, x_val, x_bin, hd_var, hd_lc, lc, A, List.getElem?_cons_succ, List.getElem?_cons_zero, Out.bind_ok, rdHs_cons, rdHs_nil, rdH_slot, rdH_now, Rv.frz_own, MO.frz_lst, derefD_lst, Option.bind_some, hb, opt_ok, asgTg, Option.map_some, Option.getD_some]
    rfl)
  obtain ⟨S', e, e2, rfl⟩ := lp
  rw [Nat.zero_add, range_len] at e
  have hs : srcOf true (.now (.int (n : Int))) (A 0 .no) = some (.int n, rangeD n) := by
    simp only [srcOf, rdH_now, derefD_int]
    rw [if_pos (by omega)]
  have t1 : evS (run T k) (.asg (.var 1) (.val (.lst [(.tup [])]))) ⟨startE 4 [.int n], st⟩ = .ok .nx (A 0 .no) := by
    simp [startE, asgTg, A, rowsN]
  have v0 : evX (run T k) (.var 0) (A 0 .no) = .ok (.val (.int n)) (A 0 .no) := by simp [A]
  rw [show d_l_parts_of.body = [.asg (.var 1) (.val (.lst [(.tup [])])), .for_ (.var 2) true (.var 0) b_l_parts_of_1, .ret (.bif .sorted [(.var 1)])] from rfl, show d_l_parts_of.n = 4 from rfl, ss_cons', t1, Out.bind_ok, ss_cons', s_for, v0]
  simp only [Out.bind_ok, Rv.frz_val, hs, e]
  simp [A, isVar, bifD, ansOf]
theorem c_fault (k : Nat) (lots : List (List Int)) (st : List SO) (hl : ∀ xs ∈ lots, xs.length < LIM)
    (hx : ∀ lot ∈ lots, ∀ t ∈ lot, ∀ o ∈ lots, t ∉ o → ∃ p ∈ o, p ∉ lot ∧ sortI ((lot.filter fun x => decide (x ≠ t)) ++ [p]) ∈ lots) : run T (k + 2) "_law_fault" [.tup (lots.map tR)] st = .ret (.val .non) st := by
  rw [run_def (fd := d_l_fault) rfl rfl]
  let L : D := .tup (lots.map tR)
  let A (e1 e2 e3 e4 : Slot) : Sg := ⟨[.val L, e1, e2, e3, e4, .no], st⟩
  -- the innermost turn
  have t3 : ∀ (lot : List Int) (t : Int) (o : List Int) (e3 e4 : Slot), lot ∈ lots → t ∈ lot → o ∈ lots → ∃ e4', forStep (run T (k + 1)) (.var 3) b_l_fault_1 (tR o) (A (.val (tR lot)) (.val (.int t)) e3 e4) = .ok .nx (A (.val (tR lot)) (.val (.int t)) (.val (tR o)) e4') ∧ ((∃ d, e4 = .val d) ∨ e4 = .no → (∃ d, e4' = .val d) ∨ e4' = .no) := by
    intro lot t o e3 e4 h1 h2 h3
    have ft : forTg (A (.val (tR lot)) (.val (.int t)) e3 e4) (.var 3) (tR o) = some (A (.val (tR lot)) (.val (.int t)) (.val (tR o)) e4) := rfl
    by_cases hto : t ∈ o
    · exact ⟨e4, by simp only [forStep, ft]; simp [b_l_fault_1, A, hto], id⟩
    · let ps := o.filter fun p => !decide (p ∈ lot)
      have lc1 := x_lcP (Φ := run T (k + 1)) (cond := some (.cmp .notIn (.var 5) (.var 1))) (elt := .var 5) (it := .var 3) (rg := false) (v := 5) (S := A (.val (tR lot)) (.val (.int t)) (.val (tR o)) e4) (h := .slot 3) (d := tR o) (items := o) (g := .int) (fun p => if (!decide (p ∈ lot)) then some (.int p) else none) rfl rfl rfl
        fun p _ => ⟨by by_cases h : p ∈ lot <;> simp [A, h], still_slot rfl⟩
      rw [fm_if] at lc1
      have lc2 := x_lcP (Φ := run T (k + 1)) (cond := none) (elt := .cmp .isIn (.call "_law_exchanged" [(.var 1), (.var 2), (.var 5)]) (.var 0)) (it := .var 4) (rg := false) (v := 5) (S := A (.val (tR lot)) (.val (.int t)) (.val (tR o)) (.val (.lst (ps.map .int)))) (h := .slot 4) (d := .lst (ps.map .int)) (items := ps) (g := .int) (fun p => some (.bl (decide (sortI ((lot.filter fun x => decide (x ≠ t)) ++ [p]) ∈ lots)))) rfl rfl rfl
        fun p _ => ⟨by
          have ce := c_exchanged k lot t p st (hl lot h1)
          have ci := in_rows (sortI ((lot.filter fun x => decide (x ≠ t)) ++ [p])) lots
          simp only [c_none, v_none, x_cmp, hd_call, x_call, l_cons, l_nil, x_var, hd_var, A, List.set_cons_succ, List.set_cons_zero, List.getElem?_cons_succ, List.getElem?_cons_zero, Out.bind_ok, Rv.frz_val, callD, ce, rdHs_cons, rdHs_nil, rdH_now, rdH_slot, derefD_tR, L, derefD_tup, Option.bind_some, ci, Option.map_some, opt_ok], still_slot rfl⟩
      rw [fm_some] at lc2
      have hany : (ps.map fun p => decide (sortI ((lot.filter fun x => decide (x ≠ t)) ++ [p]) ∈ lots)).any id = true := by
        obtain ⟨p, p1, p2, p3⟩ := hx lot h1 t h2 o h3 hto
        rw [List.any_map, List.any_eq_true]
        exact ⟨p, List.mem_filter.mpr ⟨p1, by simp [p2]⟩, by simp only [Function.comp, id]; exact decide_eq_true p3⟩
      have hb : bifD .any [.lst (ps.map fun p => D.bl (decide (sortI ((lot.filter fun x => decide (x ≠ t)) ++ [p]) ∈ lots)))] = some (.val (.bl true)) := by
        rw [show (ps.map fun p => D.bl (decide (sortI ((lot.filter fun x => decide (x ≠ t)) ++ [p]) ∈ lots))) = (ps.map fun p => decide (sortI ((lot.filter fun x => decide (x ≠ t)) ++ [p]) ∈ lots)).map .bl by rw [List.map_map]; rfl]
        simp only [bifD, boolsD_map, Option.map_some, hany]
      refine ⟨.val (.lst (ps.map .int)), ?_, fun _ => .inl ⟨_, rfl⟩⟩
      have s1 : evS (run T (k + 1)) (.asg (.var 4) (.val (.lc [5] (.var 5) [5] false (.var 3) (some (.cmp .notIn (.var 5) (.var 1)))))) (A (.val (tR lot)) (.val (.int t)) (.val (tR o)) e4) = .ok .nx (A (.val (tR lot)) (.val (.int t)) (.val (tR o)) (.val (.lst (ps.map .int)))) := by
        rw [s_asg, x_val, lc1]; rfl
      have s2 : evX (run T (k + 1)) (.not (.truth (.bif .any [(.lc [5] (.cmp .isIn (.call "_law_exchanged" [(.var 1), (.var 2), (.var 5)]) (.var 0)) [5] false (.var 4) none)]))) (A (.val (tR lot)) (.val (.int t)) (.val (tR o)) (.val (.lst (ps.map .int)))) = .ok (.val (.bl false)) (A (.val (tR lot)) (.val (.int t)) (.val (tR o)) (.val (.lst (ps.map .int)))) := by
        simp only [x_not, x_truth, hd_bif, x_bif, h_cons, h_nil, hd_lc, lc2, Out.bind_ok, rdHs_cons, rdHs_nil, rdH_now, Rv.frz_own, MO.frz_lst, derefD_lst, Option.bind_some, hb, opt_ok, Rv.frz_val, derefD_bl, truthD, Option.map_some, Bool.not_true]
      have s0 : evX (run T (k + 1)) (.cmp .notIn (.var 2) (.var 3)) (A (.val (tR lot)) (.val (.int t)) (.val (tR o)) e4) = .ok (.val (.bl true)) (A (.val (tR lot)) (.val (.int t)) (.val (tR o)) e4) := by
        simp [A, hto]
      simp only [forStep, ft]
      rw [show b_l_fault_1 = [.ite (.cmp .notIn (.var 2) (.var 3)) [.asg (.var 4) (.val (.lc [5] (.var 5) [5] false (.var 3) (some (.cmp .notIn (.var 5) (.var 1))))), .ite (.not (.truth (.bif .any [(.lc [5] (.cmp .isIn (.call "_law_exchanged" [(.var 1), (.var 2), (.var 5)]) (.var 0)) [5] false (.var 4) none)]))) [.ret (.tup [(.var 1), (.var 2), (.var 3)])] []] []] from rfl]
      simp only [ss_cons', s_ite, s0, Out.bind_ok, s1, s2, ss_nil']
  have t2 : ∀ (lot : List Int) (t : Int) (e2 e3 e4 : Slot), lot ∈ lots → t ∈ lot → ∃ e3' e4', forStep (run T (k + 1)) (.var 2) b_l_fault_2 (.int t) (A (.val (tR lot)) e2 e3 e4) = .ok .nx (A (.val (tR lot)) (.val (.int t)) e3' e4') := by
    intro lot t e2 e3 e4 h1 h2
    have lp := for_inv (step := forStep (run T (k + 1)) (.var 3) b_l_fault_1) (ok := stillSrc false (.now L) L) (fun i S => ∃ e3 e4, S = A (.val (tR lot)) (.val (.int t)) e3 e4) (lots.map tR) 0 (A (.val (tR lot)) (.val (.int t)) e3 e4) ⟨_, _, rfl⟩ (fun i y S hy hI => by
      obtain ⟨e3, e4, rfl⟩ := hI
      rw [List.getElem?_map] at hy
      cases q : lots[i]? with
      | none => rw [q] at hy; cases hy
      | some o =>
        rw [q] at hy
        cases hy
        obtain ⟨e4', e, _⟩ := t3 lot t o e3 e4 h1 h2 (List.mem_of_getElem? q)
        exact ⟨_, e, still_now rfl, _, _, rfl⟩)
    obtain ⟨S', e, e3', e4', rfl⟩ := lp
    refine ⟨e3', e4', ?_⟩
    have ft : forTg (A (.val (tR lot)) e2 e3 e4) (.var 2) (.int t) = some (A (.val (tR lot)) (.val (.int t)) e3 e4) := rfl
    have v0 : evX (run T (k + 1)) (.var 0) (A (.val (tR lot)) (.val (.int t)) e3 e4) = .ok (.val L) (A (.val (tR lot)) (.val (.int t)) e3 e4) := by simp [A]
    have hs : srcOf false (.now L) (A (.val (tR lot)) (.val (.int t)) e3 e4) = some (L, lots.map tR) := rfl
    simp only [forStep, ft]
    rw [show b_l_fault_2 = [.for_ (.var 3) false (.var 0) b_l_fault_1] from rfl, ss_cons', s_for, v0]
    simp only [Out.bind_ok, Rv.frz_val, hs, e, ss_nil']
  have t1 : ∀ (lot : List Int) (e1 e2 e3 e4 : Slot), lot ∈ lots → ∃ e2' e3' e4', forStep (run T (k + 1)) (.var 1) b_l_fault_3 (tR lot) (A e1 e2 e3 e4) = .ok .nx (A (.val (tR lot)) e2' e3' e4') := by
    intro lot e1 e2 e3 e4 h1
    have lp := for_inv (step := forStep (run T (k + 1)) (.var 2) b_l_fault_2) (ok := stillSrc false (.now (tR lot)) (tR lot)) (fun i S => ∃ e2 e3 e4, S = A (.val (tR lot)) e2 e3 e4) (lot.map .int) 0 (A (.val (tR lot)) e2 e3 e4) ⟨_, _, _, rfl⟩ (fun i y S hy hI => by
      obtain ⟨e2, e3, e4, rfl⟩ := hI
      rw [List.getElem?_map] at hy
      cases q : lot[i]? with
      | none => rw [q] at hy; cases hy
      | some t =>
        rw [q] at hy
        cases hy
        obtain ⟨e3', e4', e⟩ := t2 lot t e2 e3 e4 h1 (List.mem_of_getElem? q)
        exact ⟨_, e, still_now rfl, _, _, _, rfl⟩)
    obtain ⟨S', e, e2', e3', e4', rfl⟩ := lp
    refine ⟨e2', e3', e4', ?_⟩
    have ft : forTg (A e1 e2 e3 e4) (.var 1) (tR lot) = some (A (.val (tR lot)) e2 e3 e4) := rfl
    have v0 : evX (run T (k + 1)) (.var 1) (A (.val (tR lot)) e2 e3 e4) = .ok (.val (tR lot)) (A (.val (tR lot)) e2 e3 e4) := by simp [A]
    have hs : srcOf false (.now (tR lot)) (A (.val (tR lot)) e2 e3 e4) = some (tR lot, lot.map .int) := rfl
    simp only [forStep, ft]
    rw [show b_l_fault_3 = [.for_ (.var 2) false (.var 1) b_l_fault_2] from rfl, ss_cons', s_for, v0]
    simp only [Out.bind_ok, Rv.frz_val, hs, e, ss_nil']
  have lp := for_inv (step := forStep (run T (k + 1)) (.var 1) b_l_fault_3) (ok := stillSrc false (.now L) L) (fun i S => ∃ e1 e2 e3 e4, S = A e1 e2 e3 e4) (lots.map tR) 0 (A .no .no .no .no) ⟨_, _, _, _, rfl⟩ (fun i y S hy hI => by
    obtain ⟨e1, e2, e3, e4, rfl⟩ := hI
    rw [List.getElem?_map] at hy
    cases q : lots[i]? with
    | none => rw [q] at hy; cases hy
    | some o =>
      rw [q] at hy
      cases hy
      obtain ⟨e2', e3', e4', e⟩ := t1 o e1 e2 e3 e4 (List.mem_of_getElem? q)
      exact ⟨_, e, still_now rfl, _, _, _, _, rfl⟩)
  obtain ⟨S', e, e1', e2', e3', e4', rfl⟩ := lp
  have v0 : evX (run T (k + 1)) (.var 0) (A .no .no .no .no) = .ok (.val L) (A .no .no .no .no) := by simp [A]
  have hs : srcOf false (.now L) (A .no .no .no .no) = some (L, lots.map tR) := rfl
  rw [show d_l_fault.body = [.for_ (.var 1) false (.var 0) b_l_fault_3, .ret .non] from rfl, show (⟨startE d_l_fault.n [.tup (lots.map tR)], st⟩ : Sg) = A .no .no .no .no from rfl, ss_cons', s_for, v0]
  simp only [Out.bind_ok, Rv.frz_val, hs, e]
  simp [isVar, ansOf, A]
end Tk
namespace Tk
open PySem L2 Ms
theorem fmod_lt (a : Int) {b : Int} (h : 0 < b) : 0 ≤ a.fmod b ∧ a.fmod b < b := ⟨Int.fmod_nonneg_of_pos a h, Int.fmod_lt_of_pos a h⟩
theorem pow18 : binD .pow (.int 10) (.int 18) = some (.val (.int 1000000000000000000)) := by
  simp [binD]
theorem fm1 (a : Int) : 0 ≤ a.fmod 2147483647 ∧ a.fmod 2147483647 < 2147483647 := fmod_lt a (by decide)
theorem fm2 (a : Int) : 0 ≤ a.fmod 5040 ∧ a.fmod 5040 < 5040 := fmod_lt a (by decide)
theorem mul1 (a b : Int) (h : (smallI a || smallI b) = true) : binD .mul (.int a) (.int b) = some (.val (.int (a * b))) := by
  simp only [binD, h, if_true]
theorem mod1 (a b : Int) (h : b ≠ 0) : binD .mod (.int a) (.int b) = some (.val (.int (a.fmod b))) := by
  simp only [binD]; rw [if_pos h]
theorem add1 (a b : Int) : binD .add (.int a) (.int b) = some (.val (.int (a + b))) := by simp only [binD]
theorem int1 (a : Int) : bifD .int [.int a] = some (.val (.int a)) := by simp only [bifD]
theorem s_1 : smallI 48271 = true := by decide
theorem s_2 : smallI 69621 = true := by decide
theorem q_1 (a : Int) : binD .mul (.int a) (.int 48271) = some (.val (.int (a * 48271))) := mul1 a 48271 (by rw [s_1, Bool.or_true])
theorem q_2 (a : Int) : binD .mul (.int a) (.int 69621) = some (.val (.int (a * 69621))) := mul1 a 69621 (by rw [s_2, Bool.or_true])
theorem p_1 (a : Int) : binD .mod (.int a) (.int 2147483647) = some (.val (.int (a.fmod 2147483647))) := mod1 a 2147483647 (by decide)
theorem dr1 (Φ : Fns) (a0 a1 a2 a3 a5 a7 : Slot) (r0 i : Int) (st : List SO) : evS Φ (.asg (.var 7) (.bin .mod (.bif .int [(.bin .add (.bin .add (.bin .mul (.var 4) (.int 48271)) (.bin .mul (.bin .add (.var 6) (.int 1)) (.int 69621))) (.int 11))]) (.int 2147483647))) ⟨[a0, a1, a2, a3, .val (.int r0), a5, .val (.int i), a7], st⟩ =
    .ok .nx ⟨[a0, a1, a2, a3, .val (.int r0), a5, .val (.int i), .val (.int ((r0 * 48271 + (i + 1) * 69621 + 11).fmod 2147483647))], st⟩ := by
  simp only [s_asg, x_bin, x_bif, h_cons, h_nil, hd_bin, hd_bif, hd_int, hd_var, x_int, List.getElem?_cons_succ, List.getElem?_cons_zero, Out.bind_ok, rdHs_cons, rdHs_nil, rdH_slot, rdH_now, derefD_int, Rv.frz_val, Option.bind_some, add1, int1, opt_ok, asgTg, Option.map_some, Option.getD_some, List.set_cons_succ, List.set_cons_zero, q_1, q_2, p_1]
theorem s_3 : smallI 40692 = true := by decide
theorem q_3 (a : Int) : binD .mul (.int 40692) (.int a) = some (.val (.int (40692 * a))) := mul1 40692 a (by rw [s_3, Bool.true_or])
theorem p_2 (a : Int) : binD .mod (.int a) (.int 2147483399) = some (.val (.int (a.fmod 2147483399))) := mod1 a 2147483399 (by decide)
theorem p_3 (a : Int) : binD .mod (.int a) (.int 5040) = some (.val (.int (a.fmod 5040))) := mod1 a 5040 (by decide)
theorem p_4 (a : Int) : binD .fdiv (.int a) (.int 64) = some (.val (.int (a.fdiv 64))) := by
  simp only [binD]; rw [if_pos (by decide)]
theorem p_5 (a : Int) : binD .fdiv (.int a) (.int 5040) = some (.val (.int (a.fdiv 5040))) := by
  simp only [binD]; rw [if_pos (by decide)]
theorem smI (i : Int) (h0 : 0 ≤ i) (h1 : i < 2147483647) : smallI i = true := by
  unfold smallI
  exact decide_eq_true ⟨by omega, by omega⟩
theorem dr2 (Φ : Fns) (a0 a1 a2 a3 a4 a5 : Slot) (m i : Int) (st : List SO) (hm : smallI m = true) : evS Φ (.asg (.var 7) (.bin .mod (.bif .int [(.bin .add (.bin .mul (.var 7) (.var 7)) (.bin .mul (.int 40692) (.bin .add (.var 6) (.int 3))))]) (.int 2147483399))) ⟨[a0, a1, a2, a3, a4, a5, .val (.int i), .val (.int m)], st⟩ =
    .ok .nx ⟨[a0, a1, a2, a3, a4, a5, .val (.int i), .val (.int ((m * m + 40692 * (i + 3)).fmod 2147483399))], st⟩ := by
  have q4 : binD .mul (.int m) (.int m) = some (.val (.int (m * m))) := mul1 _ _ (by rw [hm]; rfl)
  simp only [s_asg, x_bin, x_bif, h_cons, h_nil, hd_bin, hd_bif, hd_int, hd_var, x_int, List.getElem?_cons_succ, List.getElem?_cons_zero, Out.bind_ok, rdHs_cons, rdHs_nil, rdH_slot, rdH_now, derefD_int, Rv.frz_val, Option.bind_some, add1, int1, opt_ok, asgTg, Option.map_some, Option.getD_some, List.set_cons_succ, List.set_cons_zero, q_3, q4, p_2]
theorem dr3 (Φ : Fns) (a0 a1 a2 a3 a4 a6 : Slot) (ds : List Int) (m : Int) (st : List SO) (hl : ds.length < LIM) : evS Φ (.app (.var 5) (.bin .mod (.bif .int [(.bin .fdiv (.var 7) (.int 64))]) (.int 5040))) ⟨[a0, a1, a2, a3, a4, .own (.lst (ds.map .int)), a6, .val (.int m)], st⟩ =
    .ok .nx ⟨[a0, a1, a2, a3, a4, .own (.lst ((ds ++ [(m.fdiv 64).fmod 5040]).map .int)), a6, .val (.int m)], st⟩ := by
  simp only [s_app, getM, putM, appM, s_asg, x_bin, x_bif, h_cons, h_nil, hd_bin, hd_bif, hd_int, hd_var, x_int, List.getElem?_cons_succ, List.getElem?_cons_zero, Out.bind_ok, rdHs_cons, rdHs_nil, rdH_slot, rdH_now, derefD_int, Rv.frz_val, Option.bind_some, add1, int1, opt_ok, asgTg, Option.map_some, Option.getD_some, List.set_cons_succ, List.set_cons_zero, p_3, p_4, List.length_map, hl, if_true, List.map_append, List.map_cons, List.map_nil]
theorem dr4 (Φ : Fns) (a0 a1 a3 a4 a6 a7 : Slot) (ds : List Int) (m : Int) (st : List SO) (hl : ds.length < LIM) : evSs Φ [.app (.var 5) (.bin .mod (.bif .int [(.var 2)]) (.int 5040)), .asg (.var 2) (.bin .fdiv (.var 2) (.int 5040))] ⟨[a0, a1, .val (.int m), a3, a4, .own (.lst (ds.map .int)), a6, a7], st⟩ =
    .ok .nx ⟨[a0, a1, .val (.int (m.fdiv 5040)), a3, a4, .own (.lst ((ds ++ [m.fmod 5040]).map .int)), a6, a7], st⟩ := by
  simp only [ss_cons', ss_nil', s_app, getM, putM, appM, s_asg, x_bin, x_bif, h_cons, h_nil, hd_bin, hd_bif, hd_int, hd_var, x_int, List.getElem?_cons_succ, List.getElem?_cons_zero, Out.bind_ok, rdHs_cons, rdHs_nil, rdH_slot, rdH_now, derefD_int, Rv.frz_val, Option.bind_some, add1, int1, opt_ok, asgTg, Option.map_some, Option.getD_some, List.set_cons_succ, List.set_cons_zero, p_3, p_5, List.length_map, hl, if_true, List.map_append, List.map_cons, List.map_nil]
theorem c_draws (k : Nat) (c : Int) (n : Nat) (hn : n ≤ 12) (st : List SO) : ∃ ds : List Int, ds.length = n ∧ (∀ d ∈ ds, 0 ≤ d ∧ d < 5040) ∧ run T (k + 1) "_law_draws" [.int c, .int n] st = .ret (.own (.lst (ds.map .int))) st := by
  rw [run_def (fd := d_l_draws) rfl rfl]
  have hL : (LIM : Int) = 1048576 := rfl
  have hL' : LIM = 1048576 := rfl
  let r0 : Int := if c < 0 then -c else c
  let dg : Bool := decide ((1000000000000000000 : Int) ≤ r0)
  let A (rest : Int) (ds : List Int) (e6 e7 : Slot) : Sg := ⟨[.val (.int c), .val (.int n), .val (.int rest), .val (.bl dg), .val (.int r0), .own (.lst (ds.map .int)), e6, e7], st⟩
  have lp := for_inv (step := forStep (run T k) (.var 6) b_l_draws_1) (ok := stillSrc true (.now (.int (n : Int))) (.int n)) (fun i S => ∃ rest ds e6 e7, S = A rest ds e6 e7 ∧ ds.length = i ∧ ∀ d ∈ ds, 0 ≤ d ∧ d < 5040) (rangeD n) 0 (A r0 [] .no .no) ⟨_, _, _, _, rfl, rfl, fun _ h => (by cases h)⟩ (fun i y S hy hI => by
    obtain ⟨rest, ds, e6, e7, rfl, hl, hd⟩ := hI
    obtain ⟨hi, rfl⟩ := range_get hy
    rw [Nat.zero_add] at hl ⊢
    have ft : forTg (A rest ds e6 e7) (.var 6) (.int i) = some (A rest ds (.val (.int i)) e7) := rfl
    have hlt : ds.length < LIM := by omega
    have add : ∀ d : Int, 0 ≤ d ∧ d < 5040 → (ds ++ [d]).length = i + 1 ∧ ∀ x ∈ ds ++ [d], 0 ≤ x ∧ x < 5040 := fun d h => ⟨by simp [hl], fun x hx => by
      rcases List.mem_append.mp hx with z | z
      · exact hd x z
      · cases List.mem_singleton.mp z; exact h⟩
    by_cases c1 : dg = true ∧ 0 < rest
    · have h5 := fm2 rest
      refine ⟨A (rest.fdiv 5040) (ds ++ [rest.fmod 5040]) (.val (.int i)) e7, ?_, rfl, _, _, _, _, rfl, (add _ h5).1, (add _ h5).2⟩
      have tst : evX (run T k) (.and (.truth (.var 3)) (.cmp .gt (.var 2) (.int 0))) (A rest ds (.val (.int i)) e7) = .ok (.val (.bl true)) (A rest ds (.val (.int i)) e7) := by
        simp [A, truthD, cmpD, c1.1, c1.2]
      have t4 := dr4 (run T k) (.val (.int c)) (.val (.int n)) (.val (.bl dg)) (.val (.int r0)) (.val (.int i)) e7 ds rest st hlt
      simp only [forStep, ft, b_l_draws_1]
      rw [ss_cons', s_ite, tst]
      simp only [Out.bind_ok]
      simp only [A]
      rw [t4]
      simp only [Out.bind_ok, ss_nil']
    · let m1 : Int := (r0 * 48271 + ((i : Int) + 1) * 69621 + 11).fmod 2147483647
      let m2 : Int := (m1 * m1 + 40692 * ((i : Int) + 3)).fmod 2147483399
      have h1 := fm1 (r0 * 48271 + ((i : Int) + 1) * 69621 + 11)
      have h5 := fm2 (m2.fdiv 64)
      have sm : smallI m1 = true := smI m1 h1.1 h1.2
      refine ⟨A rest (ds ++ [(m2.fdiv 64).fmod 5040]) (.val (.int i)) (.val (.int m2)), ?_, rfl, _, _, _, _, rfl, (add _ h5).1, (add _ h5).2⟩
      simp only [forStep, ft]
      have tst : evX (run T k) (.and (.truth (.var 3)) (.cmp .gt (.var 2) (.int 0))) (A rest ds (.val (.int i)) e7) = .ok (.val (.bl false)) (A rest ds (.val (.int i)) e7) := by
        by_cases d1 : dg = true
        · have : ¬ 0 < rest := fun z => c1 ⟨d1, z⟩
          simp [A, truthD, cmpD, d1, this]
        · have d1 : dg = false := by simpa using d1
          simp [A, truthD, d1]
      have a1 : evS (run T k) (.asg (.var 7) (.bin .mod (.bif .int [(.bin .add (.bin .add (.bin .mul (.var 4) (.int 48271)) (.bin .mul (.bin .add (.var 6) (.int 1)) (.int 69621))) (.int 11))]) (.int 2147483647))) (A rest ds (.val (.int i)) e7) = .ok .nx (A rest ds (.val (.int i)) (.val (.int m1))) := dr1 _ _ _ _ _ _ _ _ _ _
      have a2 : evS (run T k) (.asg (.var 7) (.bin .mod (.bif .int [(.bin .add (.bin .mul (.var 7) (.var 7)) (.bin .mul (.int 40692) (.bin .add (.var 6) (.int 3))))]) (.int 2147483399))) (A rest ds (.val (.int i)) (.val (.int m1))) = .ok .nx (A rest ds (.val (.int i)) (.val (.int m2))) := dr2 _ _ _ _ _ _ _ _ _ _ sm
      have a3 : evS (run T k) (.app (.var 5) (.bin .mod (.bif .int [(.bin .fdiv (.var 7) (.int 64))]) (.int 5040))) (A rest ds (.val (.int i)) (.val (.int m2))) = .ok .nx (A rest (ds ++ [(m2.fdiv 64).fmod 5040]) (.val (.int i)) (.val (.int m2))) := dr3 _ _ _ _ _ _ _ _ _ _ hlt
      simp only [b_l_draws_1, ss_cons', s_ite, tst, Out.bind_ok, a1, a2, a3, ss_nil'])
  obtain ⟨S', e, rest, ds, e6, e7, rfl, hl, hd⟩ := lp
  rw [Nat.zero_add, range_len] at hl
  refine ⟨ds, hl, hd, ?_⟩
  have b0 : evS (run T k) (.asg (.var 2) (.bif .abs [(.bif .int [(.var 0)])])) ⟨startE 8 [.int c, .int n], st⟩ = .ok .nx ⟨[.val (.int c), .val (.int n), .val (.int r0), .no, .no, .no, .no, .no], st⟩ := by
    simp [startE, bifD, asgTg, r0]
  have b1 : evS (run T k) (.asg (.var 3) (.cmp .ge (.var 2) (.bin .pow (.int 10) (.int 18)))) ⟨[.val (.int c), .val (.int n), .val (.int r0), .no, .no, .no, .no, .no], st⟩ = .ok .nx ⟨[.val (.int c), .val (.int n), .val (.int r0), .val (.bl dg), .no, .no, .no, .no], st⟩ := by
    simp [pow18, cmpD, asgTg, dg]
  have b2 : evS (run T k) (.asg (.var 4) (.var 2)) ⟨[.val (.int c), .val (.int n), .val (.int r0), .val (.bl dg), .no, .no, .no, .no], st⟩ = .ok .nx ⟨[.val (.int c), .val (.int n), .val (.int r0), .val (.bl dg), .val (.int r0), .no, .no, .no], st⟩ := by
    simp [asgTg]
  have b3 : evS (run T k) (.asg (.var 5) (.lst [])) ⟨[.val (.int c), .val (.int n), .val (.int r0), .val (.bl dg), .val (.int r0), .no, .no, .no], st⟩ = .ok .nx (A r0 [] .no .no) := by
    simp [asgTg, A]
  have v1 : evX (run T k) (.var 1) (A r0 [] .no .no) = .ok (.val (.int n)) (A r0 [] .no .no) := by simp [A]
  have hs : srcOf true (.now (.int (n : Int))) (A r0 [] .no .no) = some (.int n, rangeD n) := by
    simp only [srcOf, rdH_now, derefD_int]
    rw [if_pos (by omega)]
  rw [show d_l_draws.body = [.asg (.var 2) (.bif .abs [(.bif .int [(.var 0)])]), .asg (.var 3) (.cmp .ge (.var 2) (.bin .pow (.int 10) (.int 18))), .asg (.var 4) (.var 2), .asg (.var 5) (.lst []), .for_ (.var 6) true (.var 1) b_l_draws_1, .ret (.var 5)] from rfl,
    show d_l_draws.n = 8 from rfl, ss_cons', b0, Out.bind_ok, ss_cons', b1, Out.bind_ok, ss_cons', b2, Out.bind_ok, ss_cons', b3, Out.bind_ok, ss_cons', s_for, v1]
  simp only [Out.bind_ok, Rv.frz_val, hs, e]
  simp [isVar, ansOf, A]
end Tk
namespace Tk
open PySem L2 Ms
theorem at_rowsL (xs : List (List Int)) (i : Int) : idxD (.lst (xs.map tR)) (.int i) = (atI xs i).map tR := by
  unfold idxD atI ixN
  simp only [List.length_map]
  split
  · split <;> simp [List.getElem?_map]
  · split <;> simp [List.getElem?_map]
theorem at_intsL (xs : List Int) (i : Int) : idxD (.lst (xs.map .int)) (.int i) = (atI xs i).map .int := by
  unfold idxD atI ixN
  simp only [List.length_map]
  split
  · split <;> simp [List.getElem?_map]
  · split <;> simp [List.getElem?_map]
theorem at_mod {α : Type} (xs : List α) (d : Int) (h : 0 < xs.length) : ∃ r, r ∈ xs ∧ atI xs (d.fmod xs.length) = some r := by
  have hb := fmod_lt d (b := (xs.length : Int)) (by omega)
  generalize d.fmod (xs.length : Int) = j at hb
  obtain ⟨n, rfl⟩ := Int.eq_ofNat_of_zero_le hb.1
  have hn : n < xs.length := by omega
  exact ⟨xs[n], List.getElem_mem hn, at_nat (List.getElem?_eq_getElem hn)⟩
theorem lenL (xs : List D) : bifD .len [.lst xs] = some (.val (.int xs.length)) := by simp only [bifD]
def tab7 (a b c d e f g : Int) (x : Int) : Int := if x = 0 then a else if x = 1 then b else if x = 2 then c else if x = 3 then d else if x = 4 then e else if x = 5 then f else g
theorem at7 (a b c d e f g x : Int) (h : 0 ≤ x ∧ x < 7) : idxD (.tup [.int a, .int b, .int c, .int d, .int e, .int f, .int g]) (.int x) = some (.int (tab7 a b c d e f g x)) := by
  have : x = 0 ∨ x = 1 ∨ x = 2 ∨ x = 3 ∨ x = 4 ∨ x = 5 ∨ x = 6 := by omega
  rcases this with rfl | rfl | rfl | rfl | rfl | rfl | rfl <;> rfl
theorem c_groups (k : Nat) (c : Int) (n : Nat) (hn : n ≤ 8) (st : List SO) : ∃ gs : Gs, gs.length ≤ 5 ∧ run T (k + 2) "_law_groups" [.int c, .int n] st = .ret (.val (gsD gs)) st := by
  obtain ⟨ds, hl, _, ed⟩ := c_draws k c 12 (by omega) st
  have ep := c_parts k n hn st
  rw [run_def (fd := d_l_groups) rfl rfl]
  have hL : (LIM : Int) = 1048576 := rfl
  have hL' : LIM = 1048576 := rfl
  let ps := sortR (rowsN n)
  have hps : 0 < ps.length := by
    simp only [ps, sortR, List.length_mergeSort, rowsN_len]
    exact Nat.two_pow_pos _
  let A (gs : Gs) (e5 e6 : Slot) : Sg := ⟨[.val (.int c), .val (.int n), .val (.lst (ds.map .int)), .val (.lst (ps.map tR)), .own (.lst (gs.map tR)), e5, e6], st⟩
  have da : ∀ j : Nat, j < 12 → ∃ d : Int, atI ds (j : Int) = some d := fun j hj => ⟨ds[j]'(by omega), at_nat (List.getElem?_eq_getElem (by omega))⟩
  have turn : ∀ (i : Nat) (gs : Gs) (e5 e6 : Slot), i < 5 → gs.length = i → ∃ g e6', forStep (run T (k + 1)) (.var 5) b_l_groups_1 (.int i) (A gs e5 e6) = .ok .nx (A (gs ++ [g]) (.val (.int i)) e6') := by
    intro i gs e5 e6 hi hg
    obtain ⟨kind, hk⟩ := da (2 + 2 * i) (by omega)
    obtain ⟨d2, hd2⟩ := da (3 + 2 * i) (by omega)
    have hk : atI ds (2 + 2 * (i : Int)) = some kind := by rw [← hk]; congr 1
    have hd2 : atI ds (3 + 2 * (i : Int)) = some d2 := by rw [← hd2]; congr 1
    have ft : forTg (A gs e5 e6) (.var 5) (.int i) = some (A gs (.val (.int i)) e6) := rfl
    let A1 := A gs (.val (.int i)) (.val (.int kind))
    have m2 : ∀ a : Int, binD .mul (.int 2) (.int a) = some (.val (.int (2 * a))) := fun a => mul1 2 a (by rw [show smallI 2 = true by decide]; rfl)
    have a6 : evS (run T (k + 1)) (.asg (.var 6) (.bif .int [(.idx (.var 2) (.bin .add (.int 2) (.bin .mul (.int 2) (.var 5))))])) (A gs (.val (.int i)) e6) = .ok .nx A1 := by
      simp only [s_asg, x_bif, h_cons, h_nil, hd_idx, x_idx, hd_var, hd_bin, x_bin, hd_int, x_int, A, A1, List.getElem?_cons_succ, List.getElem?_cons_zero, Out.bind_ok, rdHs_cons, rdHs_nil, rdH_slot, rdH_now, derefD_int, derefD_lst, Rv.frz_val, Option.bind_some, m2, add1, opt_ok, at_intsL, hk, Option.map_some, int1, asgTg, Option.getD_some, List.set_cons_succ, List.set_cons_zero]
    have hgl : gs.length < LIM := by omega
    have app : ∀ (e : E) (g : List Int), evX (run T (k + 1)) e A1 = .ok (.val (tR g)) A1 → evS (run T (k + 1)) (.app (.var 4) e) A1 = .ok .nx (A (gs ++ [g]) (.val (.int i)) (.val (.int kind))) := by
      intro e g he
      have h4 : hd (.var 4) (evX (run T (k + 1)) (.var 4)) A1 = .ok (.slot 4) A1 := rfl
      have g4 : getM A1 (.slot 4) = some (.lst (gs.map tR)) := rfl
      rw [s_app, h4]
      simp only [Out.bind_ok, g4, he, Option.bind_some, appM, Rv.frz_val, List.length_map, hgl, if_true]
      simp only [putM, A1, A, List.getElem?_cons_succ, List.getElem?_cons_zero, List.set_cons_succ, List.set_cons_zero, List.map_append, List.map_cons, List.map_nil]
    have md : ∀ a b : Int, b ≠ 0 → binD .mod (.int a) (.int b) = some (.val (.int (a.fmod b))) := mod1
    have pick : ∀ (j : Nat) (rows : Gs), (rdH A1 (.slot j) = some (.lst (rows.map tR))) → (hd (.var j) (evX (run T (k + 1)) (.var j)) A1 = .ok (.slot j) A1) → 0 < rows.length → ∃ g, evX (run T (k + 1)) (.idx (.var j) (.bin .mod (.bif .int [(.idx (.var 2) (.bin .add (.int 3) (.bin .mul (.int 2) (.var 5))))]) (.bif .len [(.var j)]))) A1 = .ok (.val (tR g)) A1 := by
      intro j rows hr hh hpos
      obtain ⟨g, _, hg⟩ := at_mod rows d2 hpos
      refine ⟨g, ?_⟩
      have z : (rows.length : Int) ≠ 0 := by omega
      have i2 : evX (run T (k + 1)) (.bif .int [(.idx (.var 2) (.bin .add (.int 3) (.bin .mul (.int 2) (.var 5))))]) A1 = .ok (.val (.int d2)) A1 := by
        simp only [x_bif, h_cons, h_nil, hd_idx, x_idx, hd_var, hd_bin, x_bin, hd_int, x_int, A, A1, List.getElem?_cons_succ, List.getElem?_cons_zero, Out.bind_ok, rdHs_cons, rdHs_nil, rdH_slot, rdH_now, derefD_int, derefD_lst, Rv.frz_val, Option.bind_some, m2, add1, opt_ok, at_intsL, hd2, Option.map_some, int1]
      have l2 : evX (run T (k + 1)) (.bif .len [(.var j)]) A1 = .ok (.val (.int rows.length)) A1 := by
        rw [x_bif, h_cons, hh]
        simp only [Out.bind_ok, h_nil, rdHs_cons, rdHs_nil, hr, Option.bind_some, lenL, List.length_map, opt_ok]
      rw [x_idx, hh]
      simp only [Out.bind_ok, hd_bin, x_bin, hd_bif, i2, l2, rdHs_cons, rdHs_nil, rdH_now, Rv.frz_val, derefD_int, Option.bind_some, md _ _ z, opt_ok, hr, at_rowsL, hg, Option.map_some]
    have t1 : ∃ b : Bool, evX (run T (k + 1)) (.cmp .eq (.bin .mod (.var 6) (.int 8)) (.int 1)) A1 = .ok (.val (.bl b)) A1 := by
      refine ⟨decide (kind.fmod 8 = 1), ?_⟩
      simp only [x_cmp, hd_bin, x_bin, hd_var, hd_int, x_int, A1, A, List.getElem?_cons_succ, List.getElem?_cons_zero, Out.bind_ok, rdHs_cons, rdHs_nil, rdH_slot, rdH_now, derefD_int, Rv.frz_val, Option.bind_some, md _ _ (show (8 : Int) ≠ 0 by decide), opt_ok, cmp_eq, eqD_int, Option.map_some]
    obtain ⟨b1, t1⟩ := t1
    have p8 : ∀ a : Int, binD .fdiv (.int a) (.int 8) = some (.val (.int (a.fdiv 8))) := fun a => by
      simp only [binD]; rw [if_pos (by decide)]
    have t2 : ∃ b : Bool, (b = true → 0 < gs.length) ∧ evX (run T (k + 1)) (.and (.cmp .eq (.bin .mod (.bin .fdiv (.var 6) (.int 8)) (.int 3)) (.int 1)) (.cmp .gt (.bif .len [(.var 4)]) (.int 0))) A1 = .ok (.val (.bl b)) A1 := by
      refine ⟨decide ((kind.fdiv 8).fmod 3 = 1) && decide (0 < gs.length), fun h => by simp at h; exact h.2, ?_⟩
      have hz : decide ((0 : Int) < (gs.length : Int)) = decide (0 < gs.length) := by
        rw [decide_eq_decide]; omega
      cases hq : decide ((kind.fdiv 8).fmod 3 = 1) <;>
        simp only [x_and, x_cmp, hd_bin, x_bin, hd_bif, x_bif, h_cons, h_nil, hd_var, hd_int, x_int, A1, A, List.getElem?_cons_succ, List.getElem?_cons_zero, Out.bind_ok, rdHs_cons, rdHs_nil, rdH_slot, rdH_now, derefD_int, Rv.frz_val, MO.frz_lst, Option.bind_some, p8, md _ _ (show (3 : Int) ≠ 0 by decide), opt_ok, cmp_eq, eqD_int, Option.map_some, hq, lenL, List.length_map, cmpD, hz, Bool.true_and, Bool.false_and]
    obtain ⟨b2, h2, t2⟩ := t2
    obtain ⟨g3, p3⟩ := pick 3 ps rfl rfl hps
    simp only [forStep, ft, b_l_groups_1]
    rw [ss_cons', a6]
    simp only [Out.bind_ok]
    rw [ss_cons', s_ite, t1]
    cases b1 with
    | true =>
      refine ⟨[], .val (.int kind), ?_⟩
      simp only [Out.bind_ok]
      rw [ss_cons', app (.tup []) [] (by simp only [x_tup, l_nil, Out.bind_ok, tup0])]
      simp only [Out.bind_ok, ss_nil']
    | false =>
      simp only [Out.bind_ok]
      rw [ss_cons', s_ite, t2]
      cases b2 with
      | true =>
        obtain ⟨g4, p4⟩ := pick 4 gs rfl rfl (h2 rfl)
        refine ⟨g4, .val (.int kind), ?_⟩
        simp only [Out.bind_ok]
        rw [ss_cons', app _ g4 p4]
        simp only [Out.bind_ok, ss_nil']
      | false =>
        refine ⟨g3, .val (.int kind), ?_⟩
        simp only [Out.bind_ok]
        rw [ss_cons', app _ g3 p3]
        simp only [Out.bind_ok, ss_nil']
  obtain ⟨d0, hd0⟩ := da 0 (by omega)
  have hb7 := fmod_lt d0 (b := 7) (by decide)
  have hm : ∃ m : Nat, m ≤ 5 ∧ tab7 3 2 4 3 1 0 5 (d0.fmod 7) = (m : Int) := by
    generalize d0.fmod 7 = x at hb7
    have : x = 0 ∨ x = 1 ∨ x = 2 ∨ x = 3 ∨ x = 4 ∨ x = 5 ∨ x = 6 := by omega
    rcases this with rfl | rfl | rfl | rfl | rfl | rfl | rfl
    · exact ⟨3, by decide, rfl⟩
    · exact ⟨2, by decide, rfl⟩
    · exact ⟨4, by decide, rfl⟩
    · exact ⟨3, by decide, rfl⟩
    · exact ⟨1, by decide, rfl⟩
    · exact ⟨0, by decide, rfl⟩
    · exact ⟨5, by decide, rfl⟩
  obtain ⟨m, hm5, hm⟩ := hm
  have lp := for_inv (step := forStep (run T (k + 1)) (.var 5) b_l_groups_1) (ok := stillSrc true (.now (.int (m : Int))) (.int m)) (fun i S => ∃ gs e5 e6, S = A gs e5 e6 ∧ gs.length = i) (rangeD m) 0 (A [] .no .no) ⟨_, _, _, rfl, rfl⟩ (fun i y S hy hI => by
    obtain ⟨gs, e5, e6, rfl, hg⟩ := hI
    obtain ⟨hi, rfl⟩ := range_get hy
    rw [Nat.zero_add] at hg ⊢
    obtain ⟨g, e6', e⟩ := turn i gs e5 e6 (by omega) hg
    exact ⟨_, e, rfl, _, _, _, rfl, by simp [hg]⟩)
  obtain ⟨S', e, gs, e5, e6, rfl, hg⟩ := lp
  rw [Nat.zero_add, range_len] at hg
  refine ⟨gs, by omega, ?_⟩
  let S0 (a2 a3 a4 : Slot) : Sg := ⟨[.val (.int c), .val (.int n), a2, a3, a4, .no, .no], st⟩
  have b0 : evS (run T (k + 1)) (.asg (.var 2) (.val (.call "_law_draws" [(.var 0), (.int 12)]))) (S0 .no .no .no) = .ok .nx (S0 (.val (.lst (ds.map .int))) .no .no) := by
    have ed : run T (k + 1) "_law_draws" [.int c, .int 12] st = .ret (.own (.lst (ds.map .int))) st := ed
    simp only [s_asg, x_val, x_call, l_cons, l_nil, x_var, x_int, S0, List.getElem?_cons_succ, List.getElem?_cons_zero, Out.bind_ok, Rv.frz_val, callD, ed, Rv.frz_own, MO.frz_lst, asgTg, Option.map_some, opt_ok, Option.getD_some, List.set_cons_succ, List.set_cons_zero]
  have b1 : evS (run T (k + 1)) (.asg (.var 3) (.val (.call "_law_parts_of" [(.var 1)]))) (S0 (.val (.lst (ds.map .int))) .no .no) = .ok .nx (S0 (.val (.lst (ds.map .int))) (.val (.lst (ps.map tR))) .no) := by
    simp only [s_asg, x_val, x_call, l_cons, l_nil, x_var, x_int, S0, List.getElem?_cons_succ, List.getElem?_cons_zero, Out.bind_ok, Rv.frz_val, callD, ep, Rv.frz_own, MO.frz_lst, asgTg, Option.map_some, opt_ok, Option.getD_some, List.set_cons_succ, List.set_cons_zero]
    rfl
  have b2 : evS (run T (k + 1)) (.asg (.var 4) (.lst [])) (S0 (.val (.lst (ds.map .int))) (.val (.lst (ps.map tR))) .no) = .ok .nx (A [] .no .no) := by
    simp only [s_asg, x_lst, l_nil, S0, Out.bind_ok, asgTg, Option.map_some, opt_ok, Option.getD_some, List.set_cons_succ, List.set_cons_zero, A, List.map_nil]
  have hd0' : atI ds 0 = some d0 := hd0
  have v1 : evX (run T (k + 1)) (.idx (.tup [(.int 3), (.int 2), (.int 4), (.int 3), (.int 1), (.int 0), (.int 5)]) (.bin .mod (.bif .int [(.idx (.var 2) (.int 0))]) (.int 7))) (A [] .no .no) = .ok (.val (.int m)) (A [] .no .no) := by
    have md := mod1 d0 7 (by decide)
    have a7 := at7 3 2 4 3 1 0 5 (d0.fmod 7) hb7
    rw [hm] at a7
    simp only [x_idx, hd_tup, x_tup, l_cons, l_nil, hd_bin, x_bin, hd_bif, x_bif, h_cons, h_nil, hd_idx, hd_var, hd_int, x_int, A, List.getElem?_cons_succ, List.getElem?_cons_zero, Out.bind_ok, rdHs_cons, rdHs_nil, rdH_slot, rdH_now, derefD_int, derefD_lst, derefD_tup, Rv.frz_val, Option.bind_some, at_intsL, hd0', Option.map_some, opt_ok, int1, md, a7]
  have hs : srcOf true (.now (.int (m : Int))) (A [] .no .no) = some (.int m, rangeD m) := by
    simp only [srcOf, rdH_now, derefD_int]
    rw [if_pos (by omega)]
  have rt : evS (run T (k + 1)) (.ret (.bif .tuple [(.var 4)])) (A gs e5 e6) = .ok (.rt (.val (gsD gs))) (A gs e5 e6) := by
    simp only [s_ret, isVar, x_bif, h_cons, h_nil, hd_var, A, List.getElem?_cons_succ, List.getElem?_cons_zero, Out.bind_ok, rdHs_cons, rdHs_nil, rdH_slot, MO.frz_lst, Option.bind_some, bifD, opt_ok, gsD]
  rw [show d_l_groups.body = [.asg (.var 2) (.val (.call "_law_draws" [(.var 0), (.int 12)])), .asg (.var 3) (.val (.call "_law_parts_of" [(.var 1)])), .asg (.var 4) (.lst []), .for_ (.var 5) true (.idx (.tup [(.int 3), (.int 2), (.int 4), (.int 3), (.int 1), (.int 0), (.int 5)]) (.bin .mod (.bif .int [(.idx (.var 2) (.int 0))]) (.int 7))) b_l_groups_1, .ret (.bif .tuple [(.var 4)])] from rfl,
    show (⟨startE d_l_groups.n [.int c, .int n], st⟩ : Sg) = S0 .no .no .no from rfl, ss_cons', b0, Out.bind_ok, ss_cons', b1, Out.bind_ok, ss_cons', b2, Out.bind_ok, ss_cons', s_for, v1]
  simp only [Out.bind_ok, Rv.frz_val, hs, e]
  rw [ss_cons', rt]
  rfl
end Tk
namespace Ms
theorem perm_sorted {α : Type} (le : α → α → Prop) (anti : ∀ a b, le a b → le b a → a = b) : ∀ {l1 l2 : List α}, l1.Perm l2 → l1.Pairwise le → l2.Pairwise le → l1 = l2
  | [], l2, p, _, _ => by rw [p.nil_eq]
  | a :: l1, [], p, _, _ => by cases p.eq_nil
  | a :: l1, b :: l2, p, h1, h2 => by
    have e : a = b := by
      have ha : a ∈ b :: l2 := p.mem_iff.mp List.mem_cons_self
      have hb : b ∈ a :: l1 := p.mem_iff.mpr List.mem_cons_self
      rcases List.mem_cons.mp ha with z | z
      · exact z
      · rcases List.mem_cons.mp hb with y | y
        · exact y.symm
        · exact anti a b ((List.pairwise_cons.mp h1).1 b y) ((List.pairwise_cons.mp h2).1 a z)
    subst e
    rw [perm_sorted le anti (List.perm_cons a |>.mp p) (List.pairwise_cons.mp h1).2 (List.pairwise_cons.mp h2).2]
theorem rng_succ (n : Nat) : rng (n + 1) = rng n ++ [(n : Int)] := by simp [rng, List.range_succ]
theorem mem_rng {n : Nat} {x : Int} : x ∈ rng n ↔ 0 ≤ x ∧ x < n := by
  simp only [rng, List.mem_map, List.mem_range]
  constructor
  · rintro ⟨k, hk, rfl⟩; omega
  · intro h
    obtain ⟨k, rfl⟩ := Int.eq_ofNat_of_zero_le h.1
    exact ⟨k, by omega, rfl⟩
theorem rng_inc (n : Nat) : (rng n).Pairwise (· < ·) := by
  rw [rng, List.pairwise_map]
  exact List.pairwise_lt_range.imp fun h => by omega
theorem rng_len (n : Nat) : (rng n).length = n := by simp [rng]
theorem nodup_inc {xs : List Int} (h : xs.Pairwise (· < ·)) : xs.Nodup := h.imp fun h => by omega
theorem mem_rowsN : ∀ {n : Nat} {r : List Int}, r ∈ rowsN n ↔ r.Sublist (rng n)
  | 0, r => by simp [rowsN, rng]
  | n + 1, r => by
    rw [rowsN, List.mem_append, List.mem_map, rng_succ, List.sublist_append_iff]
    constructor
    · rintro (h | ⟨s, h, rfl⟩)
      · exact ⟨r, [], by simp, mem_rowsN.mp h, List.nil_sublist _⟩
      · exact ⟨s, [(n : Int)], rfl, mem_rowsN.mp h, List.Sublist.refl _⟩
    · rintro ⟨s, t, rfl, h1, h2⟩
      cases t with
      | nil => left; rw [List.append_nil]; exact mem_rowsN.mpr h1
      | cons a t =>
        right
        cases h2 with
        | cons _ h => cases h
        | cons_cons _ h =>
          cases (List.sublist_nil.mp h)
          exact ⟨s, mem_rowsN.mpr h1, rfl⟩
theorem rowsN_nodup : ∀ n : Nat, (rowsN n).Nodup
  | 0 => by simp [rowsN]
  | n + 1 => by
    rw [rowsN, List.nodup_append]
    refine ⟨rowsN_nodup n, ?_, fun a ha b hb e => ?_⟩
    · rw [List.nodup_iff_pairwise_ne, List.pairwise_map]
      exact (List.nodup_iff_pairwise_ne.mp (rowsN_nodup n)).imp fun h e => h (List.append_cancel_right e)
    · subst e
      obtain ⟨s, _, rfl⟩ := List.mem_map.mp hb
      have := (mem_rowsN.mp ha).subset (List.mem_append_right s (List.mem_singleton.mpr rfl))
      have := (mem_rng.mp this).2
      omega
theorem le_anti (a b : List Int) (h1 : a ≤ b) (h2 : b ≤ a) : a = b := List.le_antisymm h1 h2
theorem sortR_sorted (xs : List (List Int)) : (Tk.sortR xs).Pairwise (· ≤ ·) := by
  have := List.pairwise_mergeSort (le := fun a b : List Int => decide (a ≤ b)) (fun a b c h1 h2 => decide_eq_true (List.le_trans (of_decide_eq_true h1) (of_decide_eq_true h2))) (fun a b => by
    rcases List.le_total a b with h | h
    · simp [h]
    · simp [h]) xs
  exact this.imp fun h => of_decide_eq_true h
theorem sortI_sorted (xs : List Int) : (Tk.sortI xs).Pairwise (· ≤ ·) := by
  have := List.pairwise_mergeSort (le := fun a b : Int => decide (a ≤ b)) (fun a b c h1 h2 => decide_eq_true (Int.le_trans (of_decide_eq_true h1) (of_decide_eq_true h2))) (fun a b => by
    rcases Int.le_total a b with h | h
    · simp [h]
    · simp [h]) xs
  exact this.imp fun h => of_decide_eq_true h
theorem subs_sorted : ∀ (xs : List Int) (c : Nat), xs.Pairwise (· < ·) → (subsF xs c).Pairwise (· < ·)
  | xs, 0, _ => by cases xs <;> simp [subsF]
  | [], c + 1, _ => by simp [subsF]
  | x :: xs, c + 1, h => by
    have h' := List.pairwise_cons.mp h
    rw [subsF, List.pairwise_append, List.pairwise_map]
    refine ⟨(subs_sorted xs c h'.2).imp fun q => ?_, subs_sorted xs (c + 1) h'.2, fun a ha b hb => ?_⟩
    · exact List.cons_lt_cons_iff.mpr (.inr ⟨rfl, q⟩)
    · obtain ⟨s, _, rfl⟩ := List.mem_map.mp ha
      obtain ⟨hb1, hb2⟩ := mem_subs.mp hb
      cases b with
      | nil => simp at hb2
      | cons y b => exact List.cons_lt_cons_iff.mpr (.inl (h'.1 y (hb1.subset List.mem_cons_self)))
/-- the arranged row of a set -/
def arr (n : Nat) (xs : List Int) : List Int := (rng n).filter fun x => decide (x ∈ xs)
theorem arr_sub (n : Nat) (xs : List Int) : (arr n xs).Sublist (rng n) := List.filter_sublist
theorem arr_perm {n : Nat} {xs : List Int} (hn : xs.Nodup) (h : ∀ x ∈ xs, x ∈ rng n) : (arr n xs).Perm xs := by
  unfold arr
  rw [List.perm_ext_iff_of_nodup (List.filter_sublist.nodup (nodup_inc (rng_inc n))) hn]
  intro a
  rw [List.mem_filter, decide_eq_true_eq]
  exact ⟨fun q => q.2, fun q => ⟨h a q, q⟩⟩
theorem sortI_arr {n : Nat} {xs : List Int} (hn : xs.Nodup) (h : ∀ x ∈ xs, x ∈ rng n) : Tk.sortI xs = arr n xs := by
  refine perm_sorted (· ≤ ·) (fun a b h1 h2 => Int.le_antisymm h1 h2) ((List.mergeSort_perm _ _).trans (arr_perm hn h).symm) (sortI_sorted xs) ?_
  exact (List.Pairwise.sublist (arr_sub n xs) (rng_inc n)).imp fun h => by omega
theorem met_congr (gs : Gs) {xs ys : List Int} (h : ∀ x, x ∈ xs ↔ x ∈ ys) : met gs xs = met gs ys := by
  unfold met
  congr 1
  apply List.filter_congr
  intro g _
  rw [Bool.eq_iff_iff, List.any_eq_true, List.any_eq_true]
  exact ⟨fun ⟨x, a, b⟩ => ⟨x, (h x).mp a, b⟩, fun ⟨x, a, b⟩ => ⟨x, (h x).mpr a, b⟩⟩
theorem Hall.mono {gs : Gs} {xs ys : List Int} (h : Hall gs xs) (s : ∀ y ∈ ys, y ∈ xs) : Hall gs ys := fun zs hn hz => h zs hn fun z q => s z (hz z q)
theorem hall_cnt {gs : Gs} {xs : List Int} (hn : xs.Nodup) {m : Nat} (c : Cnt gs xs m) : m = xs.length ↔ Hall gs xs := by
  obtain ⟨A, a1, a2, a3, a4⟩ := c.some
  have hle : A.length ≤ xs.length := sub_len a1 a2
  constructor
  · intro e
    refine a3.mono fun y hy => Classical.byContradiction fun z => ?_
    have := sub_len (l1 := y :: A) (l2 := xs) (List.nodup_cons.mpr ⟨z, a1⟩) fun w hw => by
      rcases List.mem_cons.mp hw with k | k
      · exact k ▸ hy
      · exact a2 w k
    simp only [List.length_cons] at this; omega
  · intro h
    have := c.most xs hn (fun _ h => h) h
    omega
/-- one more sits, or it is shut out -/
theorem step_ex {gs : Gs} (hg : gs.length < Tk.LIM) {h : Hs} (V : Valid gs h) (t : Int) : ∃ b h' s', Post gs t h [] b h' s' := by
  obtain ⟨b, h', s', _, P⟩ := Tk.c_seat gs hg (gs.length + 1) t h [] [.mo (Tk.dH h), .mo (Tk.dS [])] 0 1 (by simp) ⟨List.nodup_nil, fun _ h => by cases h⟩ V rfl rfl (by decide)
  exact ⟨b, h', s', P⟩
theorem run_ex {gs : Gs} (hg : gs.length < Tk.LIM) : ∀ (ys xs A : List Int) (h : Hs), Run gs xs A h → (xs ++ ys).Nodup → ∃ A' h', Run gs (xs ++ ys) A' h'
  | [], xs, A, h, r, _ => ⟨A, h, by rw [List.append_nil]; exact r⟩
  | y :: ys, xs, A, h, r, hn => by
    obtain ⟨b, h', s', P⟩ := step_ex hg r.v y
    have hy : y ∉ xs := fun z => by
      rw [List.nodup_append] at hn
      exact hn.2.2 y z y List.mem_cons_self rfl
    have e : xs ++ y :: ys = (xs ++ [y]) ++ ys := by simp
    rw [e] at hn ⊢
    exact run_ex hg ys _ _ _ (r.step hy P) hn
theorem aug_run {gs : Gs} (hg : gs.length < Tk.LIM) : ∀ (ys xs A : List Int) (h : Hs), Run gs xs A h → (xs ++ ys).Nodup → (∃ y ∈ ys, Hall gs (A ++ [y])) ∨ ∃ h', Run gs (xs ++ ys) A h'
  | [], xs, A, h, r, _ => .inr ⟨h, by rw [List.append_nil]; exact r⟩
  | y :: ys, xs, A, h, r, hn => by
    obtain ⟨b, h', s', P⟩ := step_ex hg r.v y
    have hy : y ∉ xs := fun z => by
      rw [List.nodup_append] at hn
      exact hn.2.2 y z y List.mem_cons_self rfl
    have e : xs ++ y :: ys = (xs ++ [y]) ++ ys := by simp
    have r' := r.step hy P
    cases b with
    | true =>
      rw [if_pos rfl] at r'
      exact .inl ⟨y, List.mem_cons_self, hall_of r'.v fun x hx => r'.perm.mem_iff.mpr hx⟩
    | false =>
      rw [e] at hn ⊢
      rcases aug_run hg ys _ _ _ r' hn with ⟨z, hz, q⟩ | q
      · exact .inl ⟨z, List.mem_cons_of_mem _ hz, q⟩
      · exact .inr q
theorem augment {gs : Gs} (hg : gs.length < Tk.LIM) {I J : List Int} (hI : I.Nodup) (hJ : J.Nodup) (I1 : Hall gs I) (J1 : Hall gs J) (hl : I.length < J.length) : ∃ y ∈ J, y ∉ I ∧ Hall gs (I ++ [y]) := by
  obtain ⟨A, h, r⟩ := run_ex hg I [] [] [] (.nil gs) (by simpa using hI)
  rw [List.nil_append] at r
  have hA : ∀ x ∈ I, x ∈ A := fun x hx => Classical.byContradiction fun z => by
    have h1 := (hall_cnt hI r.cnt).mpr I1
    have h2 := sub_len (l1 := x :: A) (l2 := I) (List.nodup_cons.mpr ⟨z, r.nd⟩) fun w hw => by
      rcases List.mem_cons.mp hw with k | k
      · exact k ▸ hx
      · exact r.sub w k
    simp only [List.length_cons] at h2; omega
  let J' := J.filter fun y => !decide (y ∈ I)
  have hn : (I ++ J').Nodup := by
    rw [List.nodup_append]
    refine ⟨hI, List.filter_sublist.nodup hJ, fun x hx y hy e => ?_⟩
    subst e
    have := (List.mem_filter.mp hy).2
    simp at this
    exact this hx
  rcases aug_run hg J' I A h r hn with ⟨y, hy, q⟩ | ⟨h', q⟩
  · obtain ⟨y1, y2⟩ := List.mem_filter.mp hy
    refine ⟨y, y1, by simpa using y2, q.mono fun x hx => ?_⟩
    rcases List.mem_append.mp hx with z | z
    · exact List.mem_append_left _ (hA x z)
    · exact List.mem_append_right _ z
  · have h1 := q.cnt.most J hJ (fun x hx => by
      by_cases k : x ∈ I
      · exact List.mem_append_left _ k
      · exact List.mem_append_right _ (List.mem_filter.mpr ⟨hx, by simp [k]⟩)) J1
    have h2 := sub_len r.nd r.sub
    omega
end Ms
namespace Tk
open PySem L2 Ms
open Classical in
noncomputable def hallB (gs : Gs) (xs : List Int) : Bool := decide (Hall gs xs)
theorem hallB_iff {gs : Gs} {xs : List Int} : hallB gs xs = true ↔ Hall gs xs := by
  unfold hallB
  exact @decide_eq_true_iff _ (Classical.propDecidable _)
theorem c_seats (gs : Gs) (hg : gs.length ≤ 8) (n : Nat) (hn : n ≤ 8) (k : Nat) (st : List SO) : ∃ (cnt : Nat) (st' : List SO), Cnt gs (rng n) cnt ∧
    run T (k + 12) "seats" [.int n, gsD gs] st = .ret (.val (.tup [.int n, .tup (((subsF (rng n) cnt).filter (hallB gs)).map tR)])) st' := by
  have hL : (LIM : Int) = 1048576 := rfl
  have hL' : LIM = 1048576 := rfl
  have hgl : gs.length < LIM := by omega
  obtain ⟨cnt, st1, e1, C⟩ := c_seated gs hgl (rng n) (nodup_inc (rng_inc n)) (k + 10) (by omega) st
  have hc : cnt ≤ n := by
    obtain ⟨A, a1, a2, _, a4⟩ := C.some
    have := sub_len a1 a2
    rw [rng_len] at this; omega
  have es := c_subsets (k + 11) (rng n) cnt st1 (by omega) (by rw [rng_len]; omega) (by omega)
  rw [run_def (fd := d_seats) rfl rfl]
  let rows := subsF (rng n) cnt
  let S1 : Sg := ⟨[.val (.int n), .val (gsD gs), .val (tR (rng n)), .val (.int cnt), .no], st1⟩
  have cal : hd (.call "subsets" [(.var 2), (.var 3)]) (evX (run T (k + 11)) (.call "subsets" [(.var 2), (.var 3)])) S1 = .ok (.now (.lst (rows.map tR))) S1 := by
    simp only [hd_call, x_call, l_cons, l_nil, x_var, S1, List.getElem?_cons_succ, List.getElem?_cons_zero, Out.bind_ok, Rv.frz_val, callD, es, Rv.frz_own, MO.frz_lst, rows]
  obtain ⟨st2, lc, _⟩ := x_lc1 (Φ := run T (k + 11)) (cond := some (.cmp .eq (.call "seated" [(.var 1), (.var 4)]) (.var 3))) (elt := .var 4) (it := .call "subsets" [(.var 2), (.var 3)]) (rg := false) (v := 4) (S := S1) (h := .now (.lst (rows.map tR))) (d := .lst (rows.map tR)) (items := rows) (g := tR) (fun _ => True) (fun r => if hallB gs r then some (tR r) else none) trivial cal rfl rfl
    (fun r hr st _ => by
      obtain ⟨r1, r2⟩ := mem_subs.mp hr
      have rn : r.Nodup := r1.nodup (nodup_inc (rng_inc n))
      obtain ⟨m, st', e, Cr⟩ := c_seated gs hgl r rn (k + 10) (by omega) st
      have hb : decide ((m : Int) = (cnt : Int)) = hallB gs r := by
        rw [Bool.eq_iff_iff, decide_eq_true_iff, hallB_iff, ← hall_cnt rn Cr, r2]
        omega
      refine ⟨st', ?_, still_now rfl, trivial⟩
      simp only [v_some, c_some, x_cmp, hd_call, x_call, l_cons, l_nil, x_var, hd_var, S1, List.set_cons_succ, List.set_cons_zero, List.getElem?_cons_succ, List.getElem?_cons_zero, Out.bind_ok, Rv.frz_val, callD, e, rdHs_cons, rdHs_nil, rdH_now, rdH_slot, derefD_int, Option.bind_some, cmp_eq, eqD_int, Option.map_some, opt_ok, hb]
      cases hallB gs r <;> rfl)
  rw [fm_if] at lc
  refine ⟨cnt, st2, C, ?_⟩
  have b0 : evS (run T (k + 11)) (.asg (.var 2) (.bif .tupRange [(.var 0)])) ⟨startE 5 [.int n, gsD gs], st⟩ = .ok .nx ⟨[.val (.int n), .val (gsD gs), .val (tR (rng n)), .no, .no], st⟩ := by
    have hr : bifD .tupRange [.int (n : Int)] = some (.val (tR (rng n))) := by
      simp only [bifD]
      rw [if_pos (by omega), rangeD_rng]; rfl
    simp [startE, hr, asgTg]
  have b1 : evS (run T (k + 11)) (.asg (.var 3) (.val (.call "seated" [(.var 1), (.var 2)]))) ⟨[.val (.int n), .val (gsD gs), .val (tR (rng n)), .no, .no], st⟩ = .ok .nx S1 := by
    simp only [s_asg, x_val, x_call, l_cons, l_nil, x_var, List.getElem?_cons_succ, List.getElem?_cons_zero, Out.bind_ok, Rv.frz_val, callD, e1, asgTg, Option.map_some, opt_ok, Option.getD_some, List.set_cons_succ, List.set_cons_zero, S1]
  have b2 : evS (run T (k + 11)) (.ret (.tup [(.var 0), (.bif .tuple [(.lc [4] (.var 4) [4] false (.call "subsets" [(.var 2), (.var 3)]) (some (.cmp .eq (.call "seated" [(.var 1), (.var 4)]) (.var 3))))])])) S1 = .ok (.rt (.val (.tup [.int n, .tup ((rows.filter (hallB gs)).map tR)]))) ⟨S1.env, st2⟩ := by
    have v0 : evX (run T (k + 11)) (.var 0) S1 = .ok (.val (.int n)) S1 := rfl
    simp only [s_ret, isVar, x_tup, l_cons, l_nil, v0, x_bif, h_cons, h_nil, hd_lc, lc, Out.bind_ok, rdHs_cons, rdHs_nil, rdH_now, Rv.frz_own, Rv.frz_val, MO.frz_lst, derefD_lst, Option.bind_some, bifD, opt_ok]
  rw [show d_seats.body = [.asg (.var 2) (.bif .tupRange [(.var 0)]), .asg (.var 3) (.val (.call "seated" [(.var 1), (.var 2)])), .ret (.tup [(.var 0), (.bif .tuple [(.lc [4] (.var 4) [4] false (.call "subsets" [(.var 2), (.var 3)]) (some (.cmp .eq (.call "seated" [(.var 1), (.var 4)]) (.var 3))))])])] from rfl,
    show d_seats.n = 5 from rfl, ss_cons', b0, Out.bind_ok, ss_cons', b1, Out.bind_ok, ss_cons', b2]
  rfl
theorem maxI_top : ∀ (n : Int) (ns : List Int), (∀ x ∈ n :: ns, x ≤ maxI n ns) ∧ maxI n ns ∈ n :: ns
  | n, [] => ⟨fun x h => by cases List.mem_singleton.mp h; exact Int.le_refl _, List.mem_singleton.mpr rfl⟩
  | n, m :: ns => by
    obtain ⟨h1, h2⟩ := maxI_top (if m > n then m else n) ns
    refine ⟨fun x hx => ?_, ?_⟩
    · have hq := h1 _ List.mem_cons_self
      show x ≤ maxI (if m > n then m else n) ns
      have k1 : n ≤ (if m > n then m else n) := by split <;> omega
      have k2 : m ≤ (if m > n then m else n) := by split <;> omega
      rcases List.mem_cons.mp hx with e | hx
      · rw [e]; exact Int.le_trans k1 hq
      · rcases List.mem_cons.mp hx with e | hx
        · rw [e]; exact Int.le_trans k2 hq
        · exact h1 x (List.mem_cons_of_mem _ hx)
    · show maxI (if m > n then m else n) ns ∈ _
      rcases List.mem_cons.mp h2 with e | h
      · rw [e]; split
        · exact List.mem_cons_of_mem _ List.mem_cons_self
        · exact List.mem_cons_self
      · exact List.mem_cons_of_mem _ (List.mem_cons_of_mem _ h)
end Tk
namespace Ms
open Tk
def parts (n : Nat) : List (List Int) := sortR (rowsN n)
theorem mem_parts {n : Nat} {r : List Int} : r ∈ parts n ↔ r.Sublist (rng n) := by
  rw [parts, sortR, (List.mergeSort_perm _ _).mem_iff, mem_rowsN]
theorem parts_nodup (n : Nat) : (parts n).Nodup := by
  rw [parts, sortR]
  exact (List.mergeSort_perm _ _).nodup_iff.mpr (rowsN_nodup n)
def shortL (gs : Gs) (n : Nat) : List (List Int) := (parts n).filter fun r => decide (met gs r < r.length)
theorem short_hall {gs : Gs} {n : Nat} {r : List Int} (hr : r.Sublist (rng n)) : (!((shortL gs n).any fun o => o.all fun x => decide (x ∈ r))) = hallB gs r := by
  rw [Bool.eq_iff_iff, hallB_iff, Bool.not_eq_true', ← Bool.not_eq_true, List.any_eq_true]
  constructor
  · intro h ys hn hy
    refine Nat.le_of_not_lt fun hlt => h ⟨arr n ys, ?_, ?_⟩
    · have p := arr_perm hn fun y q => hr.subset (hy y q)
      refine List.mem_filter.mpr ⟨mem_parts.mpr (arr_sub n ys), decide_eq_true ?_⟩
      rw [met_congr gs (fun x => p.mem_iff), p.length_eq]; exact hlt
    · rw [List.all_eq_true]
      intro x hx
      have := (List.mem_filter.mp hx).2
      exact decide_eq_true (hy x (of_decide_eq_true this))
  · rintro h ⟨o, ho, hs⟩
    obtain ⟨h1, h2⟩ := List.mem_filter.mp ho
    rw [List.all_eq_true] at hs
    have := h o ((mem_parts.mp h1).nodup (nodup_inc (rng_inc n))) fun x hx => of_decide_eq_true (hs x hx)
    have := of_decide_eq_true h2
    omega
/-- what is due is what is told -/
theorem due_lots {gs : Gs} {n cnt : Nat} : ((parts n).filter (hallB gs)).filter (fun r => decide ((r.length : Int) = (cnt : Int))) = (subsF (rng n) cnt).filter (hallB gs) := by
  have h1 : (subsF (rng n) cnt).Pairwise (· < ·) := subs_sorted _ _ (rng_inc n)
  refine perm_sorted (· ≤ ·) le_anti ?_ (List.Pairwise.sublist (List.filter_sublist.trans List.filter_sublist) (sortR_sorted _)) ((List.Pairwise.sublist List.filter_sublist h1).imp fun h => List.le_of_lt h)
  rw [List.perm_ext_iff_of_nodup (List.filter_sublist.nodup (List.filter_sublist.nodup (parts_nodup n))) (List.filter_sublist.nodup (List.nodup_iff_pairwise_ne.mpr (h1.imp fun h e => by subst e; exact List.lt_irrefl _ h)))]
  intro r
  rw [List.mem_filter, List.mem_filter, List.mem_filter, mem_parts, mem_subs, decide_eq_true_eq]
  constructor
  · rintro ⟨⟨a, b⟩, c⟩; exact ⟨⟨a, by omega⟩, b⟩
  · rintro ⟨⟨a, b⟩, c⟩; exact ⟨⟨a, c⟩, by omega⟩
theorem most_cnt {gs : Gs} {n cnt : Nat} (C : Cnt gs (rng n) cnt) : ∃ (m : Int) (ms : List Int), ((parts n).filter (hallB gs)).map (fun r => (r.length : Int)) = m :: ms ∧ maxI m ms = (cnt : Int) := by
  obtain ⟨A, a1, a2, a3, a4⟩ := C.some
  have p := arr_perm a1 a2
  have hm : (cnt : Int) ∈ ((parts n).filter (hallB gs)).map (fun r => (r.length : Int)) := by
    refine List.mem_map.mpr ⟨arr n A, List.mem_filter.mpr ⟨mem_parts.mpr (arr_sub n A), hallB_iff.mpr (a3.mono fun y hy => p.mem_iff.mp hy)⟩, ?_⟩
    rw [p.length_eq, a4]
  have hle : ∀ x ∈ ((parts n).filter (hallB gs)).map (fun r => (r.length : Int)), x ≤ (cnt : Int) := fun x hx => by
    obtain ⟨r, hr, rfl⟩ := List.mem_map.mp hx
    obtain ⟨h1, h2⟩ := List.mem_filter.mp hr
    have hs := mem_parts.mp h1
    have := C.most r (hs.nodup (nodup_inc (rng_inc n))) (fun x q => hs.subset q) (hallB_iff.mp h2)
    omega
  cases q : ((parts n).filter (hallB gs)).map (fun r => (r.length : Int)) with
  | nil => rw [q] at hm; cases hm
  | cons m ms =>
    rw [q] at hm hle
    obtain ⟨h1, h2⟩ := maxI_top m ms
    exact ⟨m, ms, rfl, Int.le_antisymm (hle _ h2) (h1 _ hm)⟩
/-- the exchange that the law asks -/
theorem exch {gs : Gs} (hg : gs.length < LIM) {n cnt : Nat} : ∀ lot ∈ (subsF (rng n) cnt).filter (hallB gs), ∀ t ∈ lot, ∀ o ∈ (subsF (rng n) cnt).filter (hallB gs), t ∉ o →
    ∃ p ∈ o, p ∉ lot ∧ sortI ((lot.filter fun x => decide (x ≠ t)) ++ [p]) ∈ (subsF (rng n) cnt).filter (hallB gs) := by
  intro lot hl t ht o ho hto
  obtain ⟨l1, l2⟩ := List.mem_filter.mp hl
  obtain ⟨o1, o2⟩ := List.mem_filter.mp ho
  obtain ⟨l1, l3⟩ := mem_subs.mp l1
  obtain ⟨o1, o3⟩ := mem_subs.mp o1
  have ln := l1.nodup (nodup_inc (rng_inc n))
  have on := o1.nodup (nodup_inc (rng_inc n))
  let I := lot.filter fun x => decide (x ≠ t)
  have In : I.Nodup := List.filter_sublist.nodup ln
  have il : I.length + 1 = lot.length := by
    have h1 := filter_split (fun x => decide (x ≠ t)) lot
    have h2 : (lot.filter fun x => !decide (x ≠ t)).length = 1 := by
      have e1 := sub_len (l1 := lot.filter fun x => !decide (x ≠ t)) (l2 := [t]) (List.filter_sublist.nodup ln) fun x hx => by
        have := (List.mem_filter.mp hx).2
        simp at this
        simp [this]
      have e2 := List.length_pos_of_mem (List.mem_filter.mpr ⟨ht, by simp⟩ : t ∈ lot.filter fun x => !decide (x ≠ t))
      simp only [List.length_singleton] at e1
      omega
    have hI : I.length = (lot.filter fun x => decide (x ≠ t)).length := rfl
    omega
  obtain ⟨p, p1, p2, p3⟩ := augment hg In on ((hallB_iff.mp l2).mono fun y hy => (List.mem_filter.mp hy).1) (hallB_iff.mp o2) (by omega)
  have hpt : p ≠ t := fun e => hto (e ▸ p1)
  have hpl : p ∉ lot := fun z => p2 (List.mem_filter.mpr ⟨z, decide_eq_true hpt⟩)
  refine ⟨p, p1, hpl, ?_⟩
  have zn : (I ++ [p]).Nodup := by
    rw [List.nodup_append]
    exact ⟨In, by simp, fun x hx y hy z => by subst z; cases List.mem_singleton.mp hy; exact p2 hx⟩
  have zr : ∀ x ∈ I ++ [p], x ∈ rng n := fun x hx => by
    rcases List.mem_append.mp hx with z | z
    · exact l1.subset (List.mem_filter.mp z).1
    · cases List.mem_singleton.mp z; exact o1.subset p1
  show sortI (I ++ [p]) ∈ _
  have pp := arr_perm zn zr
  rw [sortI_arr zn zr]
  refine List.mem_filter.mpr ⟨mem_subs.mpr ⟨arr_sub n _, ?_⟩, hallB_iff.mpr (p3.mono fun y hy => pp.mem_iff.mp hy)⟩
  rw [pp.length_eq, List.length_append, List.length_singleton]; omega
end Ms
namespace Tk
open PySem L2 Ms
theorem incOf {n : Nat} {r : List Int} (h : r.Sublist (rng n)) : StrInc r := by
  intro i x y hx hy
  have hp := List.Pairwise.sublist h (rng_inc n)
  obtain ⟨l1, e1⟩ := List.getElem?_eq_some_iff.mp hx
  obtain ⟨l2, e2⟩ := List.getElem?_eq_some_iff.mp hy
  have := List.pairwise_iff_getElem.mp hp i (i + 1) l1 l2 (by omega)
  rw [e1, e2] at this; exact this
theorem c_tells (gs : Gs) (hg : gs.length ≤ 8) (n : Nat) (hn : n ≤ 8) (k : Nat) (st : List SO) : ∃ st', run T (k + 14) "_law_tells" [.int n, gsD gs] st = .ret (.val (.bl true)) st' := by
  have hL' : LIM = 1048576 := rfl
  have hgl : gs.length < LIM := by omega
  have ep := c_parts (k + 12) n hn st
  obtain ⟨cnt, st', C, es⟩ := c_seats gs hg n hn (k + 1) st
  let P := parts n
  let V := P.filter (hallB gs)
  let lots := (subsF (rng n) cnt).filter (hallB gs)
  have hP : P.length ≤ 256 := by
    simp only [P, parts, sortR, List.length_mergeSort, rowsN_len]
    have : 2 ^ n ≤ 2 ^ 8 := Nat.pow_le_pow_right (by omega) hn
    omega
  refine ⟨st', ?_⟩
  rw [run_def (fd := d_l_tells) rfl rfl]
  let A (a2 a3 a4 a5 a6 a7 a8 : Slot) : Sg := ⟨[.val (.int n), .val (gsD gs), a2, a3, a4, a5, a6, a7, a8, .no], st⟩
  let dP : D := .lst (P.map tR)
  let dS' : D := .lst ((shortL gs n).map tR)
  have s2 : evS (run T (k + 13)) (.asg (.var 2) (.val (.call "_law_parts_of" [(.var 0)]))) (A .no .no .no .no .no .no .no) = .ok .nx (A (.val dP) .no .no .no .no .no .no) := by
    simp only [s_asg, x_val, x_call, l_cons, l_nil, x_var, A, List.getElem?_cons_succ, List.getElem?_cons_zero, Out.bind_ok, Rv.frz_val, callD, ep, Rv.frz_own, MO.frz_lst, asgTg, Option.map_some, opt_ok, Option.getD_some, List.set_cons_succ, List.set_cons_zero]
    rfl
  have lc3 := x_lcP (Φ := run T (k + 13)) (cond := some (.cmp .lt (.call "_law_met" [(.var 1), (.var 5)]) (.bif .len [(.var 5)]))) (elt := .var 5) (it := .var 2) (rg := false) (v := 5) (S := A (.val dP) .no .no .no .no .no .no) (h := .slot 2) (d := dP) (items := P) (g := tR) (fun r => if decide (met gs r < r.length) then some (tR r) else none) rfl rfl rfl
    fun r _ => ⟨by
      have em := c_met (k + 12) gs r st
      have hz : decide ((met gs r : Int) < (r.length : Int)) = decide (met gs r < r.length) := by rw [decide_eq_decide]; omega
      simp only [v_some, c_some, x_cmp, hd_call, x_call, l_cons, l_nil, x_var, hd_bif, x_bif, h_cons, h_nil, hd_var, A, List.set_cons_succ, List.set_cons_zero, List.getElem?_cons_succ, List.getElem?_cons_zero, Out.bind_ok, Rv.frz_val, callD, em, rdHs_cons, rdHs_nil, rdH_now, rdH_slot, derefD_int, derefD_tR, Option.bind_some, len_tR, opt_ok, cmpD, Option.map_some, hz]
      cases decide (met gs r < r.length) <;> rfl, still_slot rfl⟩
  rw [fm_if] at lc3
  have s3 : evS (run T (k + 13)) (.asg (.var 3) (.val (.lc [5] (.var 5) [5] false (.var 2) (some (.cmp .lt (.call "_law_met" [(.var 1), (.var 5)]) (.bif .len [(.var 5)])))))) (A (.val dP) .no .no .no .no .no .no) = .ok .nx (A (.val dP) (.val dS') .no .no .no .no .no) := by
    rw [s_asg, x_val, lc3]; rfl
  have s4 : evS (run T (k + 13)) (.asg (.var 4) (.lst [])) (A (.val dP) (.val dS') .no .no .no .no .no) = .ok .nx (A (.val dP) (.val dS') (.own (.lst [])) .no .no .no .no) := by
    rw [s_asg, x_lst, l_nil]; rfl
  have turn : ∀ (r : List Int) (f : List (List Int)) (e5 : Slot), r ∈ P → f.length < LIM → forStep (run T (k + 13)) (.var 5) b_l_tells_1 (tR r) (A (.val dP) (.val dS') (.own (.lst (f.map tR))) e5 .no .no .no) = .ok .nx (A (.val dP) (.val dS') (.own (.lst ((f ++ [r].filter (hallB gs)).map tR))) (.val (tR r)) .no .no .no) := by
    intro r f e5 hr hf
    let B := A (.val dP) (.val dS') (.own (.lst (f.map tR))) (.val (tR r)) .no .no .no
    have ft : forTg (A (.val dP) (.val dS') (.own (.lst (f.map tR))) e5 .no .no .no) (.var 5) (tR r) = some B := rfl
    have lc := x_lcP (Φ := run T (k + 13)) (cond := none) (elt := .call "_law_within" [(.var 9), (.var 5)]) (it := .var 3) (rg := false) (v := 9) (S := B) (h := .slot 3) (d := dS') (items := shortL gs n) (g := tR) (fun o => some (.bl (o.all fun x => decide (x ∈ r)))) rfl rfl rfl
      fun o _ => ⟨by
        have ew := c_within (k + 12) o r st
        simp only [v_none, c_none, x_call, l_cons, l_nil, x_var, B, A, List.set_cons_succ, List.set_cons_zero, List.getElem?_cons_succ, List.getElem?_cons_zero, Out.bind_ok, Rv.frz_val, callD, ew], still_slot rfl⟩
    rw [fm_some] at lc
    have hb : bifD .any [.lst ((shortL gs n).map fun o => D.bl (o.all fun x => decide (x ∈ r)))] = some (.val (.bl ((shortL gs n).any fun o => o.all fun x => decide (x ∈ r)))) := by
      rw [show ((shortL gs n).map fun o => D.bl (o.all fun x => decide (x ∈ r))) = ((shortL gs n).map fun o => o.all fun x => decide (x ∈ r)).map .bl by rw [List.map_map]; rfl]
      simp only [bifD, boolsD_map, Option.map_some, List.any_map]
      rfl
    have tst : evX (run T (k + 13)) (.not (.truth (.bif .any [(.lc [9] (.call "_law_within" [(.var 9), (.var 5)]) [9] false (.var 3) none)]))) B = .ok (.val (.bl (hallB gs r))) B := by
      rw [← short_hall (mem_parts.mp hr)]
      simp only [x_not, x_truth, hd_bif, x_bif, h_cons, h_nil, hd_lc, lc, Out.bind_ok, rdHs_cons, rdHs_nil, rdH_now, Rv.frz_own, MO.frz_lst, derefD_lst, Option.bind_some, hb, opt_ok, Rv.frz_val, derefD_bl, truthD, Option.map_some]
    have ap : evS (run T (k + 13)) (.app (.var 4) (.var 5)) B = .ok .nx (A (.val dP) (.val dS') (.own (.lst ((f ++ [r]).map tR))) (.val (tR r)) .no .no .no) := by
      have h4 : hd (.var 4) (evX (run T (k + 13)) (.var 4)) B = .ok (.slot 4) B := rfl
      have g4 : getM B (.slot 4) = some (.lst (f.map tR)) := rfl
      have v5 : evX (run T (k + 13)) (.var 5) B = .ok (.val (tR r)) B := by simp only [x_var, B, A, List.getElem?_cons_succ, List.getElem?_cons_zero]
      rw [s_app, h4]
      simp only [Out.bind_ok, g4, v5, Option.bind_some, appM, Rv.frz_val, List.length_map, hf, if_true]
      simp only [putM, B, A, List.getElem?_cons_succ, List.getElem?_cons_zero, List.set_cons_succ, List.set_cons_zero, List.map_append, List.map_cons, List.map_nil]
    simp only [forStep, ft, b_l_tells_1]
    rw [ss_cons', s_ite, tst]
    cases h : hallB gs r with
    | true =>
      simp only [Out.bind_ok]
      rw [ss_cons', ap]
      simp only [Out.bind_ok, ss_nil', List.filter_cons, h, if_true, List.filter_nil]
    | false =>
      simp only [Out.bind_ok, ss_nil', List.filter_cons, h, Bool.false_eq_true, if_false, List.filter_nil, List.append_nil]
      rfl
  have lp := for_inv (step := forStep (run T (k + 13)) (.var 5) b_l_tells_1) (ok := stillSrc false (.now dP) dP) (fun i S => ∃ e5, S = A (.val dP) (.val dS') (.own (.lst (((P.take i).filter (hallB gs)).map tR))) e5 .no .no .no ∧ ((∃ d, e5 = .val d) ∨ e5 = .no)) (P.map tR) 0 (A (.val dP) (.val dS') (.own (.lst [])) .no .no .no .no) ⟨.no, rfl, .inr rfl⟩ (fun i y S hy hI => by
    obtain ⟨e5, rfl, _⟩ := hI
    rw [Nat.zero_add]
    rw [List.getElem?_map] at hy
    cases q : P[i]? with
    | none => rw [q] at hy; cases hy
    | some r =>
      rw [q] at hy
      cases hy
      have hf : ((P.take i).filter (hallB gs)).length < LIM := by
        have h1 := List.length_filter_le (hallB gs) (P.take i)
        rw [List.length_take] at h1
        omega
      refine ⟨A (.val dP) (.val dS') (.own (.lst (((P.take i).filter (hallB gs) ++ [r].filter (hallB gs)).map tR))) (.val (tR r)) .no .no .no, turn r _ e5 (List.mem_of_getElem? q) hf, still_now rfl, .val (tR r), ?_, .inl ⟨_, rfl⟩⟩
      rw [List.take_add_one, q, List.filter_append]
      rfl)
  obtain ⟨S', e, e5, rfl, he5⟩ := lp
  rw [List.length_map, Nat.zero_add, List.take_length] at e
  let F (a6 a7 a8 : Slot) : Sg := A (.val dP) (.val dS') (.own (.lst (V.map tR))) e5 a6 a7 a8
  obtain ⟨m, ms, hm1, hm2⟩ := most_cnt C
  have no5 : ∀ a6 a7 a8, notOwn (F a6 a7 a8).env [5] = true := fun a6 a7 a8 => by
    rcases he5 with ⟨d, rfl⟩ | rfl <;> rfl
  have lc6 := x_lcP (Φ := run T (k + 13)) (cond := none) (elt := .bif .len [(.var 5)]) (it := .var 4) (rg := false) (v := 5) (S := F .no .no .no) (h := .slot 4) (d := .lst (V.map tR)) (items := V) (g := tR) (fun r => some (.int r.length)) rfl rfl (by rw [no5]; rfl)
    fun r _ => ⟨by simp only [v_none, c_none, x_bif, h_cons, h_nil, hd_var, F, A, List.set_cons_succ, List.set_cons_zero, List.getElem?_cons_succ, List.getElem?_cons_zero, Out.bind_ok, rdHs_cons, rdHs_nil, rdH_slot, derefD_tR, Option.bind_some, len_tR, opt_ok, Rv.frz_val], still_slot rfl⟩
  rw [fm_some] at lc6
  have hmax : bifD .maxL [.lst (V.map fun r => D.int (r.length : Int))] = some (.val (.int cnt)) := by
    rw [show (V.map fun r => D.int (r.length : Int)) = (V.map fun r => (r.length : Int)).map .int by rw [List.map_map]; rfl]
    simp only [bifD, intsD_map]
    rw [show (V.map fun r => (r.length : Int)) = m :: ms from hm1]
    simp only [hm2]
  have s6 : evS (run T (k + 13)) (.asg (.var 6) (.bif .maxL [(.lc [5] (.bif .len [(.var 5)]) [5] false (.var 4) none)])) (F .no .no .no) = .ok .nx (F (.val (.int cnt)) .no .no) := by
    simp only [s_asg, x_bif, h_cons, h_nil, hd_lc]
    rw [lc6]
    simp only [Out.bind_ok, rdHs_cons, rdHs_nil, rdH_now, Rv.frz_own, MO.frz_lst, derefD_lst, Option.bind_some, hmax, opt_ok]
    rfl
  have lc7 := x_lcP (Φ := run T (k + 13)) (cond := some (.cmp .eq (.bif .len [(.var 5)]) (.var 6))) (elt := .var 5) (it := .var 4) (rg := false) (v := 5) (S := F (.val (.int cnt)) .no .no) (h := .slot 4) (d := .lst (V.map tR)) (items := V) (g := tR) (fun r => if decide ((r.length : Int) = (cnt : Int)) then some (tR r) else none) rfl rfl (by rw [no5]; rfl)
    fun r _ => ⟨by
      simp only [v_some, c_some, x_cmp, hd_bif, x_bif, h_cons, h_nil, hd_var, F, A, List.set_cons_succ, List.set_cons_zero, List.getElem?_cons_succ, List.getElem?_cons_zero, Out.bind_ok, rdHs_cons, rdHs_nil, rdH_slot, rdH_now, derefD_tR, derefD_int, Option.bind_some, len_tR, opt_ok, Rv.frz_val, cmp_eq, eqD_int, Option.map_some, x_var]
      cases decide ((r.length : Int) = (cnt : Int)) <;> rfl, still_slot rfl⟩
  rw [fm_if, due_lots] at lc7
  have s7 : evS (run T (k + 13)) (.asg (.var 7) (.bif .tuple [(.lc [5] (.var 5) [5] false (.var 4) (some (.cmp .eq (.bif .len [(.var 5)]) (.var 6))))])) (F (.val (.int cnt)) .no .no) = .ok .nx (F (.val (.int cnt)) (.val (.tup (lots.map tR))) .no) := by
    simp only [s_asg, x_bif, h_cons, h_nil, hd_lc]
    rw [lc7]
    simp only [Out.bind_ok, rdHs_cons, rdHs_nil, rdH_now, Rv.frz_own, MO.frz_lst, derefD_lst, Option.bind_some, bifD, opt_ok]
    rfl
  let told : D := .tup [.int n, .tup (lots.map tR)]
  let W : Sg := ⟨(F (.val (.int cnt)) (.val (.tup (lots.map tR))) (.val told)).env, st'⟩
  have s8 : evS (run T (k + 13)) (.asg (.var 8) (.val (.call "seats" [(.var 0), (.var 1)]))) (F (.val (.int cnt)) (.val (.tup (lots.map tR))) .no) = .ok .nx W := by
    have es : run T (k + 13) "seats" [.int n, gsD gs] st = .ret (.val told) st' := es
    simp only [s_asg, x_val, x_call, l_cons, l_nil, x_var, F, A, List.getElem?_cons_succ, List.getElem?_cons_zero, Out.bind_ok, Rv.frz_val, callD, es, asgTg, Option.map_some, opt_ok, Option.getD_some, List.set_cons_succ, List.set_cons_zero]
    rfl
  have lrow : ∀ r ∈ lots, r.Sublist (rng n) := fun r hr => (mem_subs.mp (List.mem_filter.mp hr).1).1
  have llen : ∀ r ∈ lots, r.length ≤ 8 := fun r hr => by
    have := (lrow r hr).length_le
    rw [rng_len] at this; omega
  have eo := c_is_offer (k + 10) lots n st' (fun r hr => by have := llen r hr; omega) (fun r hr x hx => mem_rng.mp ((lrow r hr).subset hx)) (fun r hr => incOf (lrow r hr))
  have ef := c_fault (k + 11) lots st' (fun r hr => by have := llen r hr; omega) (exch hgl)
  have rt : evS (run T (k + 13)) (.ret (.and (.call "_law_is_offer" [(.var 8), (.var 0), (.var 7)]) (.isN (.call "_law_fault" [(.idx (.var 8) (.int 1))])))) W = .ok (.rt (.val (.bl true))) W := by
    have a1 : idxD told (.int 1) = some (.tup (lots.map tR)) := rfl
    have dt : derefD st' told = some told := rfl
    have eo : run T (k + 13) "_law_is_offer" [told, .int n, .tup (lots.map tR)] st' = .ret (.val (.bl true)) st' := eo
    simp only [s_ret, isVar, x_and, x_call, l_cons, l_nil, x_var, W, F, A, List.getElem?_cons_succ, List.getElem?_cons_zero, Out.bind_ok, Rv.frz_val, callD, eo, x_isN, hd_call, x_idx, hd_var, hd_int, x_int, rdHs_cons, rdHs_nil, rdH_slot, rdH_now, dt, derefD_int, Option.bind_some, a1, Option.map_some, opt_ok, ef, derefD_non]
  have v2 : evX (run T (k + 13)) (.var 2) (A (.val dP) (.val dS') (.own (.lst [])) .no .no .no .no) = .ok (.val dP) (A (.val dP) (.val dS') (.own (.lst [])) .no .no .no .no) := by
    simp only [x_var, A, List.getElem?_cons_succ, List.getElem?_cons_zero]
  have hs : srcOf false (.now dP) (A (.val dP) (.val dS') (.own (.lst [])) .no .no .no .no) = some (dP, P.map tR) := rfl
  rw [show (⟨startE d_l_tells.n [.int n, gsD gs], st⟩ : Sg) = A .no .no .no .no .no .no .no from rfl]
  simp only [d_l_tells]
  rw [ss_cons', s2, Out.bind_ok, ss_cons', s3, Out.bind_ok, ss_cons', s4, Out.bind_ok, ss_cons', s_for, v2]
  simp only [Out.bind_ok, Rv.frz_val, hs, e]
  rw [ss_cons', show A (.val dP) (.val dS') (.own (.lst ((P.filter (hallB gs)).map tR))) e5 .no .no .no = F .no .no .no from rfl, s6, Out.bind_ok, ss_cons', s7, Out.bind_ok, ss_cons', s8, Out.bind_ok, ss_cons', rt]
  rfl
end Tk
namespace Tk
open PySem L2 Ms
theorem small8 (x : Int) (h : 0 ≤ x ∧ x < 8) : ∃ m : Nat, m ≤ 8 ∧ idxD (.tup [.int 4, .int 5, .int 3, .int 4, .int 2, .int 5, .int 1, .int 0]) (.int x) = some (.int (m : Int)) := by
  have : x = 0 ∨ x = 1 ∨ x = 2 ∨ x = 3 ∨ x = 4 ∨ x = 5 ∨ x = 6 ∨ x = 7 := by omega
  rcases this with rfl | rfl | rfl | rfl | rfl | rfl | rfl | rfl
  · exact ⟨4, by decide, rfl⟩
  · exact ⟨5, by decide, rfl⟩
  · exact ⟨3, by decide, rfl⟩
  · exact ⟨4, by decide, rfl⟩
  · exact ⟨2, by decide, rfl⟩
  · exact ⟨5, by decide, rfl⟩
  · exact ⟨1, by decide, rfl⟩
  · exact ⟨0, by decide, rfl⟩
theorem small5 (x : Int) (h : 0 ≤ x ∧ x < 5) : ∃ m : Nat, m ≤ 8 ∧ idxD (.tup [.int 3, .int 4, .int 5, .int 6, .int 2]) (.int x) = some (.int (m : Int)) := by
  have : x = 0 ∨ x = 1 ∨ x = 2 ∨ x = 3 ∨ x = 4 := by omega
  rcases this with rfl | rfl | rfl | rfl | rfl
  · exact ⟨3, by decide, rfl⟩
  · exact ⟨4, by decide, rfl⟩
  · exact ⟨5, by decide, rfl⟩
  · exact ⟨6, by decide, rfl⟩
  · exact ⟨2, by decide, rfl⟩
theorem ev (ns : List Int) (h : ns.length ≤ 63) : ∃ st, run T 60 "law" [.scr ns] [] = .ret (.val (.bl true)) st := by
  rw [run_def (k := 59) (fd := d_law) rfl rfl]
  obtain ⟨c0, e0⟩ := c_cell 58 ns 0 []
  obtain ⟨c1, e1⟩ := c_cell 58 ns 1 []
  obtain ⟨c2, e2⟩ := c_cell 58 ns 2 []
  obtain ⟨ds, hl, _, ed⟩ := c_draws 58 c0 2 (by omega) []
  have h0 : atI ds 0 = some (ds[0]'(by omega)) := at_nat (i := 0) (List.getElem?_eq_getElem (by omega))
  have h1 : atI ds 1 = some (ds[1]'(by omega)) := at_nat (i := 1) (List.getElem?_eq_getElem (by omega))
  obtain ⟨n1, hn1, i1⟩ := small8 _ (fmod_lt (ds[0]'(by omega)) (b := 8) (by decide))
  obtain ⟨n2, hn2, i2⟩ := small5 _ (fmod_lt (ds[1]'(by omega)) (b := 5) (by decide))
  generalize hd0 : ds[0]'(by omega) = d0 at h0 i1
  generalize hd1 : ds[1]'(by omega) = d1 at h1 i2
  obtain ⟨g1, k1, q1⟩ := c_groups 57 c1 n1 hn1 []
  obtain ⟨g2, k2, q2⟩ := c_groups 57 c2 n2 hn2 []
  obtain ⟨s1, t1⟩ := c_tells g1 (by omega) n1 hn1 45 []
  obtain ⟨s2, t2⟩ := c_tells g2 (by omega) n2 hn2 45 s1
  obtain ⟨s3, t3⟩ := c_tells g1 (by omega) n1 hn1 45 s2
  refine ⟨s3, ?_⟩
  let A (a1 a2 a3 a4 a5 : Slot) (st : List SO) : Sg := ⟨[.val (.scr ns), a1, a2, a3, a4, a5], st⟩
  let dd : Slot := .val (.lst (ds.map .int))
  have e0 : run T 59 "_law_cell" [.scr ns, .int 0] [] = .ret (.val (.int c0)) [] := e0
  have e1 : run T 59 "_law_cell" [.scr ns, .int 1] [] = .ret (.val (.int c1)) [] := e1
  have e2 : run T 59 "_law_cell" [.scr ns, .int 2] [] = .ret (.val (.int c2)) [] := e2
  have ed : run T 59 "_law_draws" [.int c0, .int 2] [] = .ret (.own (.lst (ds.map .int))) [] := ed
  have q1 : run T 59 "_law_groups" [.int c1, .int n1] [] = .ret (.val (gsD g1)) [] := q1
  have q2 : run T 59 "_law_groups" [.int c2, .int n2] [] = .ret (.val (gsD g2)) [] := q2
  have t1 : run T 59 "_law_tells" [.int n1, gsD g1] [] = .ret (.val (.bl true)) s1 := t1
  have t2 : run T 59 "_law_tells" [.int n2, gsD g2] s1 = .ret (.val (.bl true)) s2 := t2
  have t3 : run T 59 "_law_tells" [.int n1, gsD g1] s2 = .ret (.val (.bl true)) s3 := t3
  have b1 : evS (run T 59) (.asg (.var 1) (.val (.call "_law_draws" [(.call "_law_cell" [(.var 0), (.int 0)]), (.int 2)]))) (A .no .no .no .no .no []) = .ok .nx (A dd .no .no .no .no []) := by
    simp only [s_asg, x_val, x_call, l_cons, l_nil, x_var, x_int, A, List.getElem?_cons_succ, List.getElem?_cons_zero, Out.bind_ok, Rv.frz_val, callD, e0, ed, Rv.frz_own, MO.frz_lst, asgTg, Option.map_some, opt_ok, Option.getD_some, List.set_cons_succ, List.set_cons_zero]
    rfl
  have b2 : evS (run T 59) (.asg (.var 2) (.idx (.tup [(.int 4), (.int 5), (.int 3), (.int 4), (.int 2), (.int 5), (.int 1), (.int 0)]) (.bin .mod (.bif .int [(.idx (.var 1) (.int 0))]) (.int 8)))) (A dd .no .no .no .no []) = .ok .nx (A dd (.val (.int n1)) .no .no .no []) := by
    have md := mod1 d0 8 (by decide)
    simp only [s_asg, x_idx, hd_tup, x_tup, l_cons, l_nil, hd_bin, x_bin, hd_bif, x_bif, h_cons, h_nil, hd_idx, hd_var, hd_int, x_int, A, dd, List.getElem?_cons_succ, List.getElem?_cons_zero, Out.bind_ok, rdHs_cons, rdHs_nil, rdH_slot, rdH_now, derefD_int, derefD_lst, derefD_tup, Rv.frz_val, Option.bind_some, at_intsL, h0, Option.map_some, opt_ok, int1, md, i1, asgTg, Option.getD_some, List.set_cons_succ, List.set_cons_zero]
  have b3 : evS (run T 59) (.asg (.var 3) (.idx (.tup [(.int 3), (.int 4), (.int 5), (.int 6), (.int 2)]) (.bin .mod (.bif .int [(.idx (.var 1) (.int 1))]) (.int 5)))) (A dd (.val (.int n1)) .no .no .no []) = .ok .nx (A dd (.val (.int n1)) (.val (.int n2)) .no .no []) := by
    have md := mod1 d1 5 (by decide)
    simp only [s_asg, x_idx, hd_tup, x_tup, l_cons, l_nil, hd_bin, x_bin, hd_bif, x_bif, h_cons, h_nil, hd_idx, hd_var, hd_int, x_int, A, dd, List.getElem?_cons_succ, List.getElem?_cons_zero, Out.bind_ok, rdHs_cons, rdHs_nil, rdH_slot, rdH_now, derefD_int, derefD_lst, derefD_tup, Rv.frz_val, Option.bind_some, at_intsL, h1, Option.map_some, opt_ok, int1, md, i2, asgTg, Option.getD_some, List.set_cons_succ, List.set_cons_zero]
  have b4 : evS (run T 59) (.asg (.var 4) (.val (.call "_law_groups" [(.call "_law_cell" [(.var 0), (.int 1)]), (.var 2)]))) (A dd (.val (.int n1)) (.val (.int n2)) .no .no []) = .ok .nx (A dd (.val (.int n1)) (.val (.int n2)) (.val (gsD g1)) .no []) := by
    simp only [s_asg, x_val, x_call, l_cons, l_nil, x_var, x_int, A, List.getElem?_cons_succ, List.getElem?_cons_zero, Out.bind_ok, Rv.frz_val, callD, e1, q1, asgTg, Option.map_some, opt_ok, Option.getD_some, List.set_cons_succ, List.set_cons_zero]
  have b5 : evS (run T 59) (.asg (.var 5) (.val (.call "_law_groups" [(.call "_law_cell" [(.var 0), (.int 2)]), (.var 3)]))) (A dd (.val (.int n1)) (.val (.int n2)) (.val (gsD g1)) .no []) = .ok .nx (A dd (.val (.int n1)) (.val (.int n2)) (.val (gsD g1)) (.val (gsD g2)) []) := by
    simp only [s_asg, x_val, x_call, l_cons, l_nil, x_var, x_int, A, List.getElem?_cons_succ, List.getElem?_cons_zero, Out.bind_ok, Rv.frz_val, callD, e2, q2, asgTg, Option.map_some, opt_ok, Option.getD_some, List.set_cons_succ, List.set_cons_zero]
  have b6 : evS (run T 59) (.ite (.or (.not (.truth (.call "_law_tells" [(.var 2), (.var 4)]))) (.not (.truth (.call "_law_tells" [(.var 3), (.var 5)])))) [.ret (.bl false)] []) (A dd (.val (.int n1)) (.val (.int n2)) (.val (gsD g1)) (.val (gsD g2)) []) = .ok .nx (A dd (.val (.int n1)) (.val (.int n2)) (.val (gsD g1)) (.val (gsD g2)) s2) := by
    simp only [s_ite, x_or, x_not, x_truth, hd_call, x_call, l_cons, l_nil, x_var, A, List.getElem?_cons_succ, List.getElem?_cons_zero, Out.bind_ok, Rv.frz_val, callD, t1, t2, rdH_now, derefD_bl, Option.bind_some, truthD, Option.map_some, opt_ok, Bool.not_true, ss_nil']
  have b7 : evS (run T 59) (.ret (.call "_law_tells" [(.var 2), (.var 4)])) (A dd (.val (.int n1)) (.val (.int n2)) (.val (gsD g1)) (.val (gsD g2)) s2) = .ok (.rt (.val (.bl true))) (A dd (.val (.int n1)) (.val (.int n2)) (.val (gsD g1)) (.val (gsD g2)) s3) := by
    simp only [s_ret, isVar, x_call, l_cons, l_nil, x_var, A, List.getElem?_cons_succ, List.getElem?_cons_zero, Out.bind_ok, Rv.frz_val, callD, t3]
  rw [show (⟨startE d_law.n [.scr ns], []⟩ : Sg) = A .no .no .no .no .no [] from rfl]
  simp only [d_law]
  rw [ss_cons', b1, Out.bind_ok, ss_cons', b2, Out.bind_ok, ss_cons', b3, Out.bind_ok, ss_cons', b4, Out.bind_ok, ss_cons', b5, Out.bind_ok, ss_cons', b6, Out.bind_ok, ss_cons', b7]
  rfl
end Tk
namespace Tk
open PySem L2 PySem.W
def top (i : Nat) : Stmt := PySem.Challenge.pw_takersrest_k38_seats.main.body.getD i (.Pass ⟨0, 0, 0, 0⟩)
theorem sc1 : FnScope ["things", "count", "found", "at", "rest"] ["things", "count"] (defScope (top 1)) := ⟨rfl, rfl, rfl, by decide +kernel, rfl, by decide +kernel, by decide +kernel⟩
theorem ck1 : chkSs (fsOf T) 60 ["things", "count", "found", "at", "rest"] (defScope (top 1)) d_subsets.body (defBody (top 1)) = true := by decide +kernel
theorem sc2 : FnScope ["groups", "thing", "holders", "seen", "at"] ["groups", "thing", "holders", "seen"] (defScope (top 3)) := ⟨rfl, rfl, rfl, by decide +kernel, rfl, by decide +kernel, by decide +kernel⟩
theorem ck2 : chkSs (fsOf T) 60 ["groups", "thing", "holders", "seen", "at"] (defScope (top 3)) d_seat.body (defBody (top 3)) = true := by decide +kernel
theorem sc3 : FnScope ["groups", "things", "holders", "thing"] ["groups", "things"] (defScope (top 4)) := ⟨rfl, rfl, rfl, by decide +kernel, rfl, by decide +kernel, by decide +kernel⟩
theorem ck3 : chkSs (fsOf T) 60 ["groups", "things", "holders", "thing"] (defScope (top 4)) d_seated.body (defBody (top 4)) = true := by decide +kernel
theorem sc4 : FnScope ["size", "groups", "everything", "count", "lot"] ["size", "groups"] (defScope (top 5)) := ⟨rfl, rfl, rfl, by decide +kernel, rfl, by decide +kernel, by decide +kernel⟩
theorem ck4 : chkSs (fsOf T) 60 ["size", "groups", "everything", "count", "lot"] (defScope (top 5)) d_seats.body (defBody (top 5)) = true := by decide +kernel
theorem sc5 : FnScope ["script", "k"] ["script", "k"] (defScope (top 7)) := ⟨rfl, rfl, rfl, by decide +kernel, rfl, by decide +kernel, by decide +kernel⟩
theorem ck5 : chkSs (fsOf T) 60 ["script", "k"] (defScope (top 7)) d_l_cell.body (defBody (top 7)) = true := by decide +kernel
theorem sc6 : FnScope ["cell", "count", "rest", "digits", "seed", "draws", "k", "mixed"] ["cell", "count"] (defScope (top 8)) := ⟨rfl, rfl, rfl, by decide +kernel, rfl, by decide +kernel, by decide +kernel⟩
theorem ck6 : chkSs (fsOf T) 60 ["cell", "count", "rest", "digits", "seed", "draws", "k", "mixed"] (defScope (top 8)) d_l_draws.body (defBody (top 8)) = true := by decide +kernel
theorem sc7 : FnScope ["value"] ["value"] (defScope (top 9)) := ⟨rfl, rfl, rfl, by decide +kernel, rfl, by decide +kernel, by decide +kernel⟩
theorem ck7 : chkSs (fsOf T) 60 ["value"] (defScope (top 9)) d_l_is_integer.body (defBody (top 9)) = true := by decide +kernel
theorem sc8 : FnScope ["value", "size", "k"] ["value", "size"] (defScope (top 10)) := ⟨rfl, rfl, rfl, by decide +kernel, rfl, by decide +kernel, by decide +kernel⟩
theorem ck8 : chkSs (fsOf T) 60 ["value", "size", "k"] (defScope (top 10)) d_l_is_set.body (defBody (top 10)) = true := by decide +kernel
theorem sc9 : FnScope ["told", "size", "lots", "lot"] ["told", "size", "lots"] (defScope (top 11)) := ⟨rfl, rfl, rfl, by decide +kernel, rfl, by decide +kernel, by decide +kernel⟩
theorem ck9 : chkSs (fsOf T) 60 ["told", "size", "lots", "lot"] (defScope (top 11)) d_l_is_offer.body (defBody (top 11)) = true := by decide +kernel
theorem sc10 : FnScope ["size", "rows", "thing", "row"] ["size"] (defScope (top 12)) := ⟨rfl, rfl, rfl, by decide +kernel, rfl, by decide +kernel, by decide +kernel⟩
theorem ck10 : chkSs (fsOf T) 60 ["size", "rows", "thing", "row"] (defScope (top 12)) d_l_parts_of.body (defBody (top 12)) = true := by decide +kernel
theorem sc11 : FnScope ["inner", "outer", "thing"] ["inner", "outer"] (defScope (top 13)) := ⟨rfl, rfl, rfl, by decide +kernel, rfl, by decide +kernel, by decide +kernel⟩
theorem ck11 : chkSs (fsOf T) 60 ["inner", "outer", "thing"] (defScope (top 13)) d_l_within.body (defBody (top 13)) = true := by decide +kernel
theorem sc12 : FnScope ["lot", "out", "put", "thing"] ["lot", "out", "put"] (defScope (top 14)) := ⟨rfl, rfl, rfl, by decide +kernel, rfl, by decide +kernel, by decide +kernel⟩
theorem ck12 : chkSs (fsOf T) 60 ["lot", "out", "put", "thing"] (defScope (top 14)) d_l_exchanged.body (defBody (top 14)) = true := by decide +kernel
theorem sc13 : FnScope ["lots", "lot", "thing", "other", "puts", "put"] ["lots"] (defScope (top 15)) := ⟨rfl, rfl, rfl, by decide +kernel, rfl, by decide +kernel, by decide +kernel⟩
theorem ck13 : chkSs (fsOf T) 60 ["lots", "lot", "thing", "other", "puts", "put"] (defScope (top 15)) d_l_fault.body (defBody (top 15)) = true := by decide +kernel
theorem sc14 : FnScope ["cell", "size", "draws", "parts", "groups", "k", "kind"] ["cell", "size"] (defScope (top 16)) := ⟨rfl, rfl, rfl, by decide +kernel, rfl, by decide +kernel, by decide +kernel⟩
theorem ck14 : chkSs (fsOf T) 60 ["cell", "size", "draws", "parts", "groups", "k", "kind"] (defScope (top 16)) d_l_groups.body (defBody (top 16)) = true := by decide +kernel
theorem sc15 : FnScope ["groups", "row", "group", "thing"] ["groups", "row"] (defScope (top 17)) := ⟨rfl, rfl, rfl, by decide +kernel, rfl, by decide +kernel, by decide +kernel⟩
theorem ck15 : chkSs (fsOf T) 60 ["groups", "row", "group", "thing"] (defScope (top 17)) d_l_met.body (defBody (top 17)) = true := by decide +kernel
theorem sc16 : FnScope ["size", "groups", "parts", "short", "seated_v", "row", "most", "due", "told", "other"] ["size", "groups"] (defScope (top 18)) := ⟨rfl, rfl, rfl, by decide +kernel, rfl, by decide +kernel, by decide +kernel⟩
theorem ck16 : chkSs (fsOf T) 60 ["size", "groups", "parts", "short", "seated_v", "row", "most", "due", "told", "other"] (defScope (top 18)) d_l_tells.body (defBody (top 18)) = true := by decide +kernel
theorem sc17 : FnScope ["script", "head", "first", "second", "groups", "others"] ["script"] (defScope (top 19)) := ⟨rfl, rfl, rfl, by decide +kernel, rfl, by decide +kernel, by decide +kernel⟩
theorem ck17 : chkSs (fsOf T) 60 ["script", "head", "first", "second", "groups", "others"] (defScope (top 19)) d_law.body (defBody (top 19)) = true := by decide +kernel
theorem all_mk {K : PySem.W.Frag} {h : Heap} {mg : Str → Option Value} (X : K.In h) (G : h.Ns mainGlobals mg) {f1 f2 f3 f4 f5 f6 f7 f8 f9 f10 f11 f12 f13 f14 f15 f16 f17 : Addr} {od1 an1 od2 an2 od3 an3 od4 an4 od5 an5 od6 an6 od7 an7 od8 an8 od9 an9 od10 an10 od11 an11 od12 an12 od13 an13 od14 an14 od15 an15 od16 an16 od17 an17 : Option Addr} {sl1 sl2 sl3 sl4 sl5 sl6 sl7 sl8 sl9 sl10 sl11 sl12 sl13 sl14 sl15 sl16 sl17 : Array (Option Value)} {oc1 kV1 dc1 pm1 cd1 ct1 oc2 kV2 dc2 pm2 cd2 ct2 oc3 kV3 dc3 pm3 cd3 ct3 oc4 kV4 dc4 pm4 cd4 ct4 oc5 kV5 dc5 pm5 cd5 ct5 oc6 kV6 dc6 pm6 cd6 ct6 oc7 kV7 dc7 pm7 cd7 ct7 oc8 kV8 dc8 pm8 cd8 ct8 oc9 kV9 dc9 pm9 cd9 ct9 oc10 kV10 dc10 pm10 cd10 ct10 oc11 kV11 dc11 pm11 cd11 ct11 oc12 kV12 dc12 pm12 cd12 ct12 oc13 kV13 dc13 pm13 cd13 ct13 oc14 kV14 dc14 pm14 cd14 ct14 oc15 kV15 dc15 pm15 cd15 ct15 oc16 kV16 dc16 pm16 cd16 ct16 oc17 kV17 dc17 pm17 cd17 ct17 : Value}
    (a1 : PySem.W.nsIn K mainGlobals "subsets" = some (some (.ref f1))) (l1 : K.lookup f1 = some ⟨oc1, od1, .func (PySem.W.fnOf "subsets" "subsets" (defArgs (top 1)) (defBody (top 1)) (defScope (top 1)) .none kV1 dc1 pm1 an1 cd1 ct1), sl1⟩) (c1 : PySem.W.codeIn K cd1 "subsets" = true) (k1 : PySem.W.keepIn K (.ref f1) = true)
    (a2 : PySem.W.nsIn K mainGlobals "seat" = some (some (.ref f2))) (l2 : K.lookup f2 = some ⟨oc2, od2, .func (PySem.W.fnOf "seat" "seat" (defArgs (top 3)) (defBody (top 3)) (defScope (top 3)) .none kV2 dc2 pm2 an2 cd2 ct2), sl2⟩) (c2 : PySem.W.codeIn K cd2 "seat" = true) (k2 : PySem.W.keepIn K (.ref f2) = true)
    (a3 : PySem.W.nsIn K mainGlobals "seated" = some (some (.ref f3))) (l3 : K.lookup f3 = some ⟨oc3, od3, .func (PySem.W.fnOf "seated" "seated" (defArgs (top 4)) (defBody (top 4)) (defScope (top 4)) .none kV3 dc3 pm3 an3 cd3 ct3), sl3⟩) (c3 : PySem.W.codeIn K cd3 "seated" = true) (k3 : PySem.W.keepIn K (.ref f3) = true)
    (a4 : PySem.W.nsIn K mainGlobals "seats" = some (some (.ref f4))) (l4 : K.lookup f4 = some ⟨oc4, od4, .func (PySem.W.fnOf "seats" "seats" (defArgs (top 5)) (defBody (top 5)) (defScope (top 5)) .none kV4 dc4 pm4 an4 cd4 ct4), sl4⟩) (c4 : PySem.W.codeIn K cd4 "seats" = true) (k4 : PySem.W.keepIn K (.ref f4) = true)
    (a5 : PySem.W.nsIn K mainGlobals "_law_cell" = some (some (.ref f5))) (l5 : K.lookup f5 = some ⟨oc5, od5, .func (PySem.W.fnOf "_law_cell" "_law_cell" (defArgs (top 7)) (defBody (top 7)) (defScope (top 7)) .none kV5 dc5 pm5 an5 cd5 ct5), sl5⟩) (c5 : PySem.W.codeIn K cd5 "_law_cell" = true) (k5 : PySem.W.keepIn K (.ref f5) = true)
    (a6 : PySem.W.nsIn K mainGlobals "_law_draws" = some (some (.ref f6))) (l6 : K.lookup f6 = some ⟨oc6, od6, .func (PySem.W.fnOf "_law_draws" "_law_draws" (defArgs (top 8)) (defBody (top 8)) (defScope (top 8)) .none kV6 dc6 pm6 an6 cd6 ct6), sl6⟩) (c6 : PySem.W.codeIn K cd6 "_law_draws" = true) (k6 : PySem.W.keepIn K (.ref f6) = true)
    (a7 : PySem.W.nsIn K mainGlobals "_law_is_integer" = some (some (.ref f7))) (l7 : K.lookup f7 = some ⟨oc7, od7, .func (PySem.W.fnOf "_law_is_integer" "_law_is_integer" (defArgs (top 9)) (defBody (top 9)) (defScope (top 9)) .none kV7 dc7 pm7 an7 cd7 ct7), sl7⟩) (c7 : PySem.W.codeIn K cd7 "_law_is_integer" = true) (k7 : PySem.W.keepIn K (.ref f7) = true)
    (a8 : PySem.W.nsIn K mainGlobals "_law_is_set" = some (some (.ref f8))) (l8 : K.lookup f8 = some ⟨oc8, od8, .func (PySem.W.fnOf "_law_is_set" "_law_is_set" (defArgs (top 10)) (defBody (top 10)) (defScope (top 10)) .none kV8 dc8 pm8 an8 cd8 ct8), sl8⟩) (c8 : PySem.W.codeIn K cd8 "_law_is_set" = true) (k8 : PySem.W.keepIn K (.ref f8) = true)
    (a9 : PySem.W.nsIn K mainGlobals "_law_is_offer" = some (some (.ref f9))) (l9 : K.lookup f9 = some ⟨oc9, od9, .func (PySem.W.fnOf "_law_is_offer" "_law_is_offer" (defArgs (top 11)) (defBody (top 11)) (defScope (top 11)) .none kV9 dc9 pm9 an9 cd9 ct9), sl9⟩) (c9 : PySem.W.codeIn K cd9 "_law_is_offer" = true) (k9 : PySem.W.keepIn K (.ref f9) = true)
    (a10 : PySem.W.nsIn K mainGlobals "_law_parts_of" = some (some (.ref f10))) (l10 : K.lookup f10 = some ⟨oc10, od10, .func (PySem.W.fnOf "_law_parts_of" "_law_parts_of" (defArgs (top 12)) (defBody (top 12)) (defScope (top 12)) .none kV10 dc10 pm10 an10 cd10 ct10), sl10⟩) (c10 : PySem.W.codeIn K cd10 "_law_parts_of" = true) (k10 : PySem.W.keepIn K (.ref f10) = true)
    (a11 : PySem.W.nsIn K mainGlobals "_law_within" = some (some (.ref f11))) (l11 : K.lookup f11 = some ⟨oc11, od11, .func (PySem.W.fnOf "_law_within" "_law_within" (defArgs (top 13)) (defBody (top 13)) (defScope (top 13)) .none kV11 dc11 pm11 an11 cd11 ct11), sl11⟩) (c11 : PySem.W.codeIn K cd11 "_law_within" = true) (k11 : PySem.W.keepIn K (.ref f11) = true)
    (a12 : PySem.W.nsIn K mainGlobals "_law_exchanged" = some (some (.ref f12))) (l12 : K.lookup f12 = some ⟨oc12, od12, .func (PySem.W.fnOf "_law_exchanged" "_law_exchanged" (defArgs (top 14)) (defBody (top 14)) (defScope (top 14)) .none kV12 dc12 pm12 an12 cd12 ct12), sl12⟩) (c12 : PySem.W.codeIn K cd12 "_law_exchanged" = true) (k12 : PySem.W.keepIn K (.ref f12) = true)
    (a13 : PySem.W.nsIn K mainGlobals "_law_fault" = some (some (.ref f13))) (l13 : K.lookup f13 = some ⟨oc13, od13, .func (PySem.W.fnOf "_law_fault" "_law_fault" (defArgs (top 15)) (defBody (top 15)) (defScope (top 15)) .none kV13 dc13 pm13 an13 cd13 ct13), sl13⟩) (c13 : PySem.W.codeIn K cd13 "_law_fault" = true) (k13 : PySem.W.keepIn K (.ref f13) = true)
    (a14 : PySem.W.nsIn K mainGlobals "_law_groups" = some (some (.ref f14))) (l14 : K.lookup f14 = some ⟨oc14, od14, .func (PySem.W.fnOf "_law_groups" "_law_groups" (defArgs (top 16)) (defBody (top 16)) (defScope (top 16)) .none kV14 dc14 pm14 an14 cd14 ct14), sl14⟩) (c14 : PySem.W.codeIn K cd14 "_law_groups" = true) (k14 : PySem.W.keepIn K (.ref f14) = true)
    (a15 : PySem.W.nsIn K mainGlobals "_law_met" = some (some (.ref f15))) (l15 : K.lookup f15 = some ⟨oc15, od15, .func (PySem.W.fnOf "_law_met" "_law_met" (defArgs (top 17)) (defBody (top 17)) (defScope (top 17)) .none kV15 dc15 pm15 an15 cd15 ct15), sl15⟩) (c15 : PySem.W.codeIn K cd15 "_law_met" = true) (k15 : PySem.W.keepIn K (.ref f15) = true)
    (a16 : PySem.W.nsIn K mainGlobals "_law_tells" = some (some (.ref f16))) (l16 : K.lookup f16 = some ⟨oc16, od16, .func (PySem.W.fnOf "_law_tells" "_law_tells" (defArgs (top 18)) (defBody (top 18)) (defScope (top 18)) .none kV16 dc16 pm16 an16 cd16 ct16), sl16⟩) (c16 : PySem.W.codeIn K cd16 "_law_tells" = true) (k16 : PySem.W.keepIn K (.ref f16) = true)
    (a17 : PySem.W.nsIn K mainGlobals "law" = some (some (.ref f17))) (l17 : K.lookup f17 = some ⟨oc17, od17, .func (PySem.W.fnOf "law" "law" (defArgs (top 19)) (defBody (top 19)) (defScope (top 19)) .none kV17 dc17 pm17 an17 cd17 ct17), sl17⟩) (c17 : PySem.W.codeIn K cd17 "law" = true) (k17 : PySem.W.keepIn K (.ref f17) = true)
    (z1 : PySem.W.nsIn K mainGlobals "len" = some none)
    (z2 : PySem.W.nsIn K mainGlobals "sum" = some none)
    (z3 : PySem.W.nsIn K mainGlobals "max" = some none)
    (z4 : PySem.W.nsIn K mainGlobals "min" = some none)
    (z5 : PySem.W.nsIn K mainGlobals "any" = some none)
    (z6 : PySem.W.nsIn K mainGlobals "all" = some none)
    (z7 : PySem.W.nsIn K mainGlobals "sorted" = some none)
    (z8 : PySem.W.nsIn K mainGlobals "tuple" = some none)
    (z9 : PySem.W.nsIn K mainGlobals "list" = some none)
    (z10 : PySem.W.nsIn K mainGlobals "abs" = some none)
    (z11 : PySem.W.nsIn K mainGlobals "int" = some none)
    (z12 : PySem.W.nsIn K mainGlobals "range" = some none)
    (z13 : PySem.W.nsIn K mainGlobals "isinstance" = some none)
    (z14 : PySem.W.nsIn K mainGlobals "bool" = some none)
    (z15 : PySem.W.nsIn K mainGlobals "set" = some none)
    (z16 : PySem.W.nsIn K mainGlobals "zip" = some none)
    (z17 : PySem.W.nsIn K mainGlobals "str" = some none)
    : (∀ x fd, T x = some fd → DefAt K mg T x fd (psT x)) ∧ ∀ x ∈ bltNames, mg x = none := by
  refine ⟨fun x fd h => ?_, fun x hx => ?_⟩
  · unfold T at h
    split at h
    · cases h; exact defAt_mk X G 60 (top 1) sc1 rfl rfl ck1 (fun _ _ _ _ _ _ us hl => match us, hl with | [_, _], _ => rfl) a1 l1 c1 k1
    · cases h; exact defAt_mk X G 60 (top 3) sc2 rfl rfl ck2 (fun _ _ _ _ _ _ us hl => match us, hl with | [_, _, _, _], _ => rfl) a2 l2 c2 k2
    · cases h; exact defAt_mk X G 60 (top 4) sc3 rfl rfl ck3 (fun _ _ _ _ _ _ us hl => match us, hl with | [_, _], _ => rfl) a3 l3 c3 k3
    · cases h; exact defAt_mk X G 60 (top 5) sc4 rfl rfl ck4 (fun _ _ _ _ _ _ us hl => match us, hl with | [_, _], _ => rfl) a4 l4 c4 k4
    · cases h; exact defAt_mk X G 60 (top 7) sc5 rfl rfl ck5 (fun _ _ _ _ _ _ us hl => match us, hl with | [_, _], _ => rfl) a5 l5 c5 k5
    · cases h; exact defAt_mk X G 60 (top 8) sc6 rfl rfl ck6 (fun _ _ _ _ _ _ us hl => match us, hl with | [_, _], _ => rfl) a6 l6 c6 k6
    · cases h; exact defAt_mk X G 60 (top 9) sc7 rfl rfl ck7 (fun _ _ _ _ _ _ us hl => match us, hl with | [_], _ => rfl) a7 l7 c7 k7
    · cases h; exact defAt_mk X G 60 (top 10) sc8 rfl rfl ck8 (fun _ _ _ _ _ _ us hl => match us, hl with | [_, _], _ => rfl) a8 l8 c8 k8
    · cases h; exact defAt_mk X G 60 (top 11) sc9 rfl rfl ck9 (fun _ _ _ _ _ _ us hl => match us, hl with | [_, _, _], _ => rfl) a9 l9 c9 k9
    · cases h; exact defAt_mk X G 60 (top 12) sc10 rfl rfl ck10 (fun _ _ _ _ _ _ us hl => match us, hl with | [_], _ => rfl) a10 l10 c10 k10
    · cases h; exact defAt_mk X G 60 (top 13) sc11 rfl rfl ck11 (fun _ _ _ _ _ _ us hl => match us, hl with | [_, _], _ => rfl) a11 l11 c11 k11
    · cases h; exact defAt_mk X G 60 (top 14) sc12 rfl rfl ck12 (fun _ _ _ _ _ _ us hl => match us, hl with | [_, _, _], _ => rfl) a12 l12 c12 k12
    · cases h; exact defAt_mk X G 60 (top 15) sc13 rfl rfl ck13 (fun _ _ _ _ _ _ us hl => match us, hl with | [_], _ => rfl) a13 l13 c13 k13
    · cases h; exact defAt_mk X G 60 (top 16) sc14 rfl rfl ck14 (fun _ _ _ _ _ _ us hl => match us, hl with | [_, _], _ => rfl) a14 l14 c14 k14
    · cases h; exact defAt_mk X G 60 (top 17) sc15 rfl rfl ck15 (fun _ _ _ _ _ _ us hl => match us, hl with | [_, _], _ => rfl) a15 l15 c15 k15
    · cases h; exact defAt_mk X G 60 (top 18) sc16 rfl rfl ck16 (fun _ _ _ _ _ _ us hl => match us, hl with | [_, _], _ => rfl) a16 l16 c16 k16
    · cases h; exact defAt_mk X G 60 (top 19) sc17 rfl rfl ck17 (fun _ _ _ _ _ _ us hl => match us, hl with | [_], _ => rfl) a17 l17 c17 k17
    · cases h
  · simp only [bltNames, List.mem_cons, List.not_mem_nil, or_false] at hx
    rcases hx with rfl | rfl | rfl | rfl | rfl | rfl | rfl | rfl | rfl | rfl | rfl | rfl | rfl | rfl | rfl | rfl | rfl
    · exact PySem.W.mg_none_of X G z1
    · exact PySem.W.mg_none_of X G z2
    · exact PySem.W.mg_none_of X G z3
    · exact PySem.W.mg_none_of X G z4
    · exact PySem.W.mg_none_of X G z5
    · exact PySem.W.mg_none_of X G z6
    · exact PySem.W.mg_none_of X G z7
    · exact PySem.W.mg_none_of X G z8
    · exact PySem.W.mg_none_of X G z9
    · exact PySem.W.mg_none_of X G z10
    · exact PySem.W.mg_none_of X G z11
    · exact PySem.W.mg_none_of X G z12
    · exact PySem.W.mg_none_of X G z13
    · exact PySem.W.mg_none_of X G z14
    · exact PySem.W.mg_none_of X G z15
    · exact PySem.W.mg_none_of X G z16
    · exact PySem.W.mg_none_of X G z17
end Tk
open PySem PySem.W PyProof.Rows
set_option maxRecDepth 100000 in
set_option maxHeartbeats 0 in
theorem PySem.Challenge.cw_takersrest_k38_seats_holds : PySem.Challenge.rw_takersrest_k38_seats.Holds := by
  w_on; o_law; k_head; (case hw => w_witness2)
  k_fill
  refine Tk.law_walk (l := PySem.Challenge.rw_takersrest_k38_seats) (T := Tk.T) (ps := Tk.psT) (cl := fun _ _ => none) (xr := fun _ _ _ _ _ _ => False) 60 rfl rfl rfl ⟨rfl, by decide, by decide⟩ (fun w h Y => PySem.W.kIn_of Y) rfl rfl rfl ?F Tk.ev
  case F =>
    intro w mg h KX G
    refine' Tk.all_mk KX G ?a1 ?l1 ?c1 ?k1 ?a2 ?l2 ?c2 ?k2 ?a3 ?l3 ?c3 ?k3 ?a4 ?l4 ?c4 ?k4 ?a5 ?l5 ?c5 ?k5 ?a6 ?l6 ?c6 ?k6 ?a7 ?l7 ?c7 ?k7 ?a8 ?l8 ?c8 ?k8 ?a9 ?l9 ?c9 ?k9 ?a10 ?l10 ?c10 ?k10 ?a11 ?l11 ?c11 ?k11 ?a12 ?l12 ?c12 ?k12 ?a13 ?l13 ?c13 ?k13 ?a14 ?l14 ?c14 ?k14 ?a15 ?l15 ?c15 ?k15 ?a16 ?l16 ?c16 ?k16 ?a17 ?l17 ?c17 ?k17 ?z1 ?z2 ?z3 ?z4 ?z5 ?z6 ?z7 ?z8 ?z9 ?z10 ?z11 ?z12 ?z13 ?z14 ?z15 ?z16 ?z17
    (case a1 => k_is); (case l1 => k_is); (case c1 => k_is); (case k1 => k_is)
    (case a2 => k_is); (case l2 => k_is); (case c2 => k_is); (case k2 => k_is)
    (case a3 => k_is); (case l3 => k_is); (case c3 => k_is); (case k3 => k_is)
    (case a4 => k_is); (case l4 => k_is); (case c4 => k_is); (case k4 => k_is)
    (case a5 => k_is); (case l5 => k_is); (case c5 => k_is); (case k5 => k_is)
    (case a6 => k_is); (case l6 => k_is); (case c6 => k_is); (case k6 => k_is)
    (case a7 => k_is); (case l7 => k_is); (case c7 => k_is); (case k7 => k_is)
    (case a8 => k_is); (case l8 => k_is); (case c8 => k_is); (case k8 => k_is)
    (case a9 => k_is); (case l9 => k_is); (case c9 => k_is); (case k9 => k_is)
    (case a10 => k_is); (case l10 => k_is); (case c10 => k_is); (case k10 => k_is)
    (case a11 => k_is); (case l11 => k_is); (case c11 => k_is); (case k11 => k_is)
    (case a12 => k_is); (case l12 => k_is); (case c12 => k_is); (case k12 => k_is)
    (case a13 => k_is); (case l13 => k_is); (case c13 => k_is); (case k13 => k_is)
    (case a14 => k_is); (case l14 => k_is); (case c14 => k_is); (case k14 => k_is)
    (case a15 => k_is); (case l15 => k_is); (case c15 => k_is); (case k15 => k_is)
    (case a16 => k_is); (case l16 => k_is); (case c16 => k_is); (case k16 => k_is)
    (case a17 => k_is); (case l17 => k_is); (case c17 => k_is); (case k17 => k_is)
    (case z1 => k_is)
    (case z2 => k_is)
    (case z3 => k_is)
    (case z4 => k_is)
    (case z5 => k_is)
    (case z6 => k_is)
    (case z7 => k_is)
    (case z8 => k_is)
    (case z9 => k_is)
    (case z10 => k_is)
    (case z11 => k_is)
    (case z12 => k_is)
    (case z13 => k_is)
    (case z14 => k_is)
    (case z15 => k_is)
    (case z16 => k_is)
    (case z17 => k_is)
#print axioms PySem.Challenge.cw_takersrest_k38_seats_holds
